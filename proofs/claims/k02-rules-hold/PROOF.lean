import PyProof.Rows.All
import Wide.All
import OpenK.AllK
import Wide.FinOn
import HandS.ForMost
import HandS.ForExc
import HandS.Walk
import HandS.Deep
import HandS.NestedK
import HandS.EndTab
import KE.KDictKeyed
import HandS.TupAny
import HandS.TupMul
import HandS.IsInst
import HandS.Flow
import HandS.TupLe
import HandS.Style
import HandS.WideBits
import HandS.Zip
import KE.GoesMore
import HandS.Words
import HandS.Conv
import HandS.Strs
import HandS.Comp
import HandS.DictComp
import HandS.More
import PySem.Challenge.RW_maypost_k02_whole_rules_hold_by_own_reck
set_option Elab.async false
set_option maxRecDepth 100000
set_option maxHeartbeats 4000000
/-! EvA: values D, outcomes, environments; how they lie in the abstract heap. -/
namespace Ev
open PySem PySem.Spec PyProof.Rows L2

/-- values: what Python's are, lists by their content -/
inductive D where
  | non | bl (b : Bool) | int (i : Int) | str (s : Str)
  | tup (xs : List D) | lst (xs : List D)
  | dic (kvs : List (D × D))
  | clo (k : Nat) (cs : List D)
  | obj (c : Str) (xs : List (Str × D))
  | scr (ns : List Int)
  deriving Inhabited
/-- an exception: its class, its attributes -/
structure Xn where
  cls : Str
  fs : List (Str × D)
/-- a slot: nothing, a value, a list of the frame's own (it may be changed) -/
inductive Sl where
  | n | v (d : D) | o (d : D)
abbrev En := List Sl
inductive Out (α : Type) where
  | no | ok (a : α) (ρ : En) | er (x : Xn) (ρ : En)
namespace Out
variable {α β : Type}
def bind (o : Out α) (k : α → En → Out β) : Out β := match o with
  | .no => .no
  | .ok a ρ => k a ρ
  | .er x ρ => .er x ρ
def Post (o : Out α) (Q : α → En → Prop) (R : Xn → En → Prop) : Prop := match o with
  | .no => False
  | .ok a ρ => Q a ρ
  | .er x ρ => R x ρ
theorem post_bind {o : Out α} {k : α → En → Out β} {Q : β → En → Prop} {R : Xn → En → Prop} (h : (o.bind k).Post Q R) : o.Post (fun a ρ => (k a ρ).Post Q R) R := by
  cases o <;> exact h
theorem Post.mono {o : Out α} {Q Q' : α → En → Prop} {R R' : Xn → En → Prop} (h : o.Post Q R) (hq : ∀ a ρ, Q a ρ → Q' a ρ) (hr : ∀ x ρ, R x ρ → R' x ρ) : o.Post Q' R' := by
  cases o with
  | no => exact h
  | ok a ρ => exact hq a ρ h
  | er x ρ => exact hr x ρ h
end Out
/-- a def's outcome: its value, the contents of the lists that it was handed to change -/
inductive FO where
  | no | ok (d : D) (os : List D) | er (x : Xn) (os : List D)

/-! ### how values lie in the abstract heap -/
/-- a made function: its words -/
structure LamI where
  name : Str
  qual : Str
  params : Arguments
  body : FuncBody
  scope : Scope
  fr : List Str
def LamI.fd (I : LamI) (cl : List (Str × Addr)) (c : Addr) (doc pm ctv : Value) : FuncData :=
  { name := I.name, qualname := I.qual, params := I.params, body := I.body, scope := I.scope, globals := mainGlobals, closure := cl, defaults := .none, kwdefaults := .none, doc, pyModule := pm, annotations := none, code := .ref c, closureTuple := ctv, builtins := builtinsNs }
/-- the object at f is a function of these words -/
def FnObj (I : LamI) (cl : List (Str × Addr)) (c f : Addr) : HO :=
  .ext fun h => ∃ (od : Option Addr) (sl : Array (Option Value)) (doc pm ctv : Value), h.get? f = some (⟨.type "function", od, .func (I.fd cl c doc pm ctv), sl⟩ : Obj)
/-- the object at b, as it is -/
def ObjO (b : Addr) (o : Obj) : HO := .ext fun h => h.get? b = some o
/-- what all is read against: the written part, the module's names, the made functions, the tables of code objects -/
structure Zx where
  K : PySem.W.Frag
  mg : Str → Option Value
  lam : Nat → LamI → Bool
  T : List NdefX.NTab
  w : World

mutual
def D.key : D → Option NestedKey
  | .non => some .none
  | .int i => some (.num i)
  | .str s => some (.text s)
  | .tup xs => (Ds.key xs).map .tup
  | .bl _ => none
  | .lst _ => none
  | .dic _ => none
  | .clo _ _ => none
  | .obj _ _ => none
  | .scr _ => none
def Ds.key : List D → Option (List NestedKey)
  | [] => some []
  | d :: ds => (D.key d).bind fun k => (Ds.key ds).map (k :: ·)
end
/-- a tuple as a key -/
def keyT (d : D) : Option NestedKey := match d with
  | .tup xs => (D.key (.tup xs)).bind fun k => if k.depth ≤ 8 then some k else none
  | _ => none
/-- a dict whose keys are tuples -/
def DictN (w : World) (a : Addr) (xs : List (NestedKey × Addr × V)) : HO :=
  .ext fun h => ∃ vs : List (NestedKey × Addr × Value), Paired (fun (p : NestedKey × Addr × V) (q : NestedKey × Addr × Value) => p.1 = q.1 ∧ p.2.1 = q.2.1 ∧ RelV p.2.2 q.2.2) xs vs ∧ xs.length ≤ sizeLine ∧ (a == sysModules) = false ∧ (vs.map (·.1)).Nodup ∧
    ∃ o es ep, h.get? a = some o ∧ o.ExactDict ∧ o.data = .dict es ep ∧ es.toList = vs.map (fun x => (⟨x.1.hash w, .ref x.2.1, x.2.2⟩ : DictEntry))
/-- stands, and is not of anybody's own -/
def Fz (H : Hp) (O : List Addr) (a : Addr) (u : HO) : Prop := H a = some u ∧ a ∉ O
mutual
inductive Rep (Z : Zx) (H : Hp) (O : List Addr) : V → D → Prop
  | non : Rep Z H O .non .non
  | bl (b : Bool) : Rep Z H O (.bl b) (.bl b)
  | int (i : Int) : Rep Z H O (.int i) (.int i)
  | str (s : Str) : PyData.strOk s = true → Rep Z H O (.str s) (.str s)
  | tup {a : Addr} {xs : List V} {ds : List D} : Fz H O a (.tup xs) → Reps Z H O xs ds → Rep Z H O (.ref a) (.tup ds)
  | tupK {a : Addr} {xs : List V} {ds : List D} : SqT Z.K (fun _ => none) a xs → Reps Z H O xs ds → Rep Z H O (.ref a) (.tup ds)
  | lst {a : Addr} {xs : List V} {ds : List D} : Fz H O a (.lst xs) → Reps Z H O xs ds → Rep Z H O (.ref a) (.lst ds)
  | scr {a : Addr} {ns : List Int} {o : Obj} : Fz H O a (.frz o (.lst (ns.map V.int))) → Rep Z H O (.ref a) (.scr ns)
  | scrK {a : Addr} {ns : List Int} : SqL Z.K (fun _ => none) a (ns.map V.int) → Rep Z H O (.ref a) (.scr ns)
  | dic0 {a : Addr} : Fz H O a (.dK []) → Rep Z H O (.ref a) (.dic [])
  | dicN {a : Addr} {xs : List (NestedKey × Addr × V)} {e : D × D} {es : List (D × D)} : Fz H O a (DictN Z.w a xs) → Ents Z H O xs (e :: es) → Rep Z H O (.ref a) (.dic (e :: es))
  | clo {f c : Addr} {k : Nat} {I : LamI} {cl : List (Str × Addr)} {cs : List D} : Z.lam k I = true → (I.fr = [] → cl = []) → Fz H O f (FnObj I cl c f) → Fz H O c (LamX.CodeO c I.qual) → Caps Z H O cl I.fr cs → Rep Z H O (.ref f) (.clo k cs)
inductive Reps (Z : Zx) (H : Hp) (O : List Addr) : List V → List D → Prop
  | nil : Reps Z H O [] []
  | cons {v : V} {vs : List V} {d : D} {ds : List D} : Rep Z H O v d → Reps Z H O vs ds → Reps Z H O (v :: vs) (d :: ds)
inductive Ents (Z : Zx) (H : Hp) (O : List Addr) : List (NestedKey × Addr × V) → List (D × D) → Prop
  | nil : Ents Z H O [] []
  | cons {k : NestedKey} {b : Addr} {v : V} {kd vd : D} {xs : List (NestedKey × Addr × V)} {es : List (D × D)} : keyT kd = some k → Rep Z H O (.ref b) kd → Rep Z H O v vd → Ents Z H O xs es → Ents Z H O ((k, b, v) :: xs) ((kd, vd) :: es)
inductive Caps (Z : Zx) (H : Hp) (O : List Addr) : List (Str × Addr) → List Str → List D → Prop
  | nil {cl : List (Str × Addr)} : Caps Z H O cl [] []
  | cons {cl : List (Str × Addr)} {y : Str} {fr : List Str} {b : Addr} {o : Obj} {u : Value} {w : V} {d : D} {cs : List D} : cl.lookup y = some b → o.data = .cell (some u) → RelV w u → Fz H O b (ObjO b o) → Rep Z H O w d → Caps Z H O cl fr cs → Caps Z H O cl (y :: fr) (d :: cs)
end
/-- what stands and is nobody's own stays so -/
def Ext (H : Hp) (O : List Addr) (H' : Hp) (O' : List Addr) : Prop := ∀ b u, H b = some u → b ∉ O → (∀ ps, u ≠ .tbl ps) → H' b = some u ∧ b ∉ O'
theorem Ext.refl (H : Hp) (O : List Addr) : Ext H O H O := fun _ _ h n _ => ⟨h, n⟩
theorem Ext.trans {H H1 H2 : Hp} {O O1 O2 : List Addr} (a : Ext H O H1 O1) (b : Ext H1 O1 H2 O2) : Ext H O H2 O2 := fun c u h n t => b c u (a c u h n t).1 (a c u h n t).2 t
theorem Ext.sub {H : Hp} {O O' : List Addr} (h : ∀ b, b ∈ O' → b ∈ O) : Ext H O H O' := fun c _ e n _ => ⟨e, fun z => n (h c z)⟩
theorem Ext.upd {H : Hp} {O : List Addr} {p : Addr} {u : HO} (h : H p = none) : Ext H O (upd H p u) O := fun b v e n _ => by
  rw [upd_ne (ne_of_none e h)]
  exact ⟨e, n⟩
/-- an own object is written -/
theorem Ext.write {H : Hp} {O : List Addr} {p : Addr} {u : HO} (h : p ∈ O) : Ext H O (L2.upd H p u) O := fun b v e n _ => by
  rw [upd_ne (fun z => n (by rw [z]; exact h))]
  exact ⟨e, n⟩
theorem Ext.new {H : Hp} {O : List Addr} {p : Addr} (h : H p = none) : Ext H O H (p :: O) := fun b v e n _ => ⟨e, fun z => by
  rcases List.mem_cons.mp z with z | z
  · rw [z, h] at e; cases e
  · exact n z⟩
section
variable {Z : Zx} {H H' : Hp} {O O' : List Addr}
theorem Fz.ext {a : Addr} {u : HO} (h : Fz H O a u) (e : Ext H O H' O') (t : ∀ ps, u ≠ .tbl ps) : Fz H' O' a u := by
  obtain ⟨h, n⟩ := h
  exact e a u h n t
mutual
theorem Rep.ext (e : Ext H O H' O') {v : V} {d : D} : Rep Z H O v d → Rep Z H' O' v d
  | .non => .non
  | .bl b => .bl b
  | .int i => .int i
  | .str s h => .str s h
  | .tup h r => .tup (h.ext e fun _ z => nomatch z) (r.ext e)
  | .tupK h r => .tupK h (r.ext e)
  | .lst h r => .lst (h.ext e fun _ z => nomatch z) (r.ext e)
  | .scr h => .scr (h.ext e fun _ z => nomatch z)
  | .scrK h => .scrK h
  | .dic0 h => .dic0 (h.ext e fun _ z => nomatch z)
  | .dicN h r => .dicN (h.ext e fun _ z => nomatch z) (r.ext e)
  | .clo hl h0 h1 h2 c => .clo hl h0 (h1.ext e fun _ z => nomatch z) (h2.ext e fun _ z => nomatch z) (c.ext e)
theorem Reps.ext (e : Ext H O H' O') {vs : List V} {ds : List D} : Reps Z H O vs ds → Reps Z H' O' vs ds
  | .nil => .nil
  | .cons r t => .cons (r.ext e) (t.ext e)
theorem Ents.ext (e : Ext H O H' O') {xs : List (NestedKey × Addr × V)} {es : List (D × D)} : Ents Z H O xs es → Ents Z H' O' xs es
  | .nil => .nil
  | .cons h1 h2 h3 t => .cons h1 (h2.ext e) (h3.ext e) (t.ext e)
theorem Caps.ext (e : Ext H O H' O') {cl : List (Str × Addr)} {fr : List Str} {cs : List D} : Caps Z H O cl fr cs → Caps Z H' O' cl fr cs
  | .nil => .nil
  | .cons h1 h2 h3 h4 h5 t => .cons h1 h2 h3 (h4.ext e fun _ z => nomatch z) (h5.ext e) (t.ext e)
end
theorem Reps.length {vs : List V} {ds : List D} (r : Reps Z H O vs ds) : vs.length = ds.length := by
  induction ds generalizing vs with
  | nil => cases r; rfl
  | cons d ds ih =>
    cases r with
    | cons _ t => simp [ih t]
theorem Reps.get : ∀ {vs : List V} {ds : List D} {i : Nat} {v : V}, Reps Z H O vs ds → vs[i]? = some v → ∃ d, ds[i]? = some d ∧ Rep Z H O v d
  | _, _, _, _, .nil, e => by simp at e
  | _, _, 0, _, .cons r _, e => by simp at e; subst e; exact ⟨_, rfl, r⟩
  | _, _, i + 1, v, .cons _ t, e => by
    obtain ⟨d, h1, h2⟩ := Reps.get (i := i) (v := v) t (by simpa using e)
    exact ⟨d, by simpa using h1, h2⟩
theorem Reps.getD : ∀ {vs : List V} {ds : List D} {i : Nat} {d : D}, Reps Z H O vs ds → ds[i]? = some d → ∃ v, vs[i]? = some v ∧ Rep Z H O v d
  | _, _, _, _, .nil, e => by simp at e
  | _, _, 0, _, .cons r _, e => by simp at e; subst e; exact ⟨_, rfl, r⟩
  | _, _, i + 1, d, .cons _ t, e => by
    obtain ⟨v, h1, h2⟩ := Reps.getD (i := i) (d := d) t (by simpa using e)
    exact ⟨v, by simpa using h1, h2⟩
theorem Reps.append : ∀ {xs ys : List V} {us ws : List D}, Reps Z H O xs us → Reps Z H O ys ws → Reps Z H O (xs ++ ys) (us ++ ws)
  | _, _, _, _, .nil, s => s
  | _, _, _, _, .cons r t, s => .cons r (Reps.append t s)
theorem Reps.take : ∀ {xs : List V} {us : List D} (n : Nat), Reps Z H O xs us → Reps Z H O (xs.take n) (us.take n)
  | _, _, 0, _ => .nil
  | _, _, _ + 1, .nil => .nil
  | _, _, n + 1, .cons r t => .cons r (Reps.take n t)
theorem Reps.drop : ∀ {xs : List V} {us : List D} (n : Nat), Reps Z H O xs us → Reps Z H O (xs.drop n) (us.drop n)
  | _, _, 0, r => r
  | _, _, _ + 1, .nil => .nil
  | _, _, n + 1, .cons _ t => Reps.drop n t
theorem Reps.set {x : V} {u : D} (r : Rep Z H O x u) : ∀ {xs : List V} {us : List D} (i : Nat), Reps Z H O xs us → Reps Z H O (xs.set i x) (us.set i u)
  | _, _, _, .nil => .nil
  | _, _, 0, .cons _ t => .cons r t
  | _, _, i + 1, .cons q t => .cons q (Reps.set r i t)
theorem Reps.reverse : ∀ {xs : List V} {us : List D}, Reps Z H O xs us → Reps Z H O xs.reverse us.reverse
  | _, _, .nil => .nil
  | _, _, .cons r t => by
    rw [List.reverse_cons, List.reverse_cons]
    exact (Reps.reverse t).append (.cons r .nil)
theorem Reps.eraseIdx : ∀ {xs : List V} {us : List D} (i : Nat), Reps Z H O xs us → Reps Z H O (xs.eraseIdx i) (us.eraseIdx i)
  | _, _, _, .nil => .nil
  | _, _, 0, .cons _ t => t
  | _, _, i + 1, .cons q t => .cons q (Reps.eraseIdx i t)
end
/-- an own list: its content -/
def OwnAt (Z : Zx) (H : Hp) (O : List Addr) (a : Addr) (d : D) : Prop := ∃ xs ds, d = .lst ds ∧ a ∈ O ∧ H a = some (.lst xs) ∧ Reps Z H O xs ds
/-- where a def's body began: the heap; the lists that it was handed to change, by slot; whose own they are -/
structure An where
  H : Hp
  io : List (Nat × Addr)
  O : List Addr
def An.W (A : An) : List Addr := A.io.map (·.2)
/-- stands, and is no table -/
def Trk (H : Hp) (b : Addr) : Prop := ∃ u, H b = some u ∧ (∀ ps, u ≠ .tbl ps) ∧ ((∃ xs, u = .lst xs) ∨ ∃ w xs, u = DictN w b xs)
theorem Trk.ne {H : Hp} {b : Addr} (t : Trk H b) : H b ≠ none := fun z => by
  obtain ⟨u, h, _⟩ := t
  rw [h] at z
  cases z
structure SR (Z : Zx) (A : An) (H : Hp) (O : List Addr) (σ : L2.St) (ρ : En) : Prop where
  len : σ.length = ρ.length
  val : ∀ (i : Nat) (d : D), ρ[i]? = some (.v d) → ∃ v, σ[i]? = some (some v) ∧ Rep Z H O v d
  own : ∀ (i : Nat) (d : D), ρ[i]? = some (.o d) → ∃ a, σ[i]? = some (some (.ref a)) ∧ OwnAt Z H O a d ∧ (a ∈ A.W ∨ (A.H a = none ∧ a ∉ A.O))
  sep : ∀ (i j : Nat) (d e : D) (a : Addr), ρ[i]? = some (.o d) → ρ[j]? = some (.o e) → σ[i]? = some (some (.ref a)) → σ[j]? = some (some (.ref a)) → i = j
  tabs : NdefX.TabsN Z.T H
  anc : ∀ b u, A.H b = some u → b ∉ A.W → (∀ ps, u ≠ .tbl ps) → H b = some u
  dom : ∀ b, A.H b ≠ none → H b ≠ none
  sub : ∀ b ∈ A.O, b ∈ O
  trk : ∀ b ∈ O, Trk H b
  io : ∀ p ∈ A.io, σ[p.1]? = some (some (.ref p.2)) ∧ ∃ d, ρ[p.1]? = some (.o d)
/-- how an exception lies -/
def RepX (Z : Zx) (H : Hp) (O : List Addr) (cls : Value) (dd : Option Addr) (x : Xn) : Prop :=
  ∃ C, Z.mg x.cls = some (.ref C) ∧ cls = .ref C ∧ (x.fs = [] ∨ ∃ a fs, dd = some a ∧ Fz H O a (.xd fs) ∧ fs.map (·.1) = x.fs.map (·.1) ∧ Reps Z H O (fs.map (·.2)) (x.fs.map (·.2)))
/-- what is wanted of an exception -/
def ErP (Z : Zx) (A : An) (W : WX) (H : Hp) (O : List Addr) (x : Xn) (ρ : En) : Prop :=
  ∀ σ cls dd H' O', Ext H O H' O' → SR Z A H' O' σ ρ → RepX Z H' O' cls dd x → W cls dd σ H'
theorem ErP.ext {Z : Zx} {A : An} {W : WX} {H H1 : Hp} {O O1 : List Addr} {x : Xn} {ρ : En} (e : Ext H O H1 O1) (h : ErP Z A W H O x ρ) : ErP Z A W H1 O1 x ρ := fun σ cls dd H' O' e' => h σ cls dd H' O' (e.trans e')
section
variable (Z : Zx) (A : An) (W : WX)
/-- the readings: an expression's, a test's, an argument list's -/
def tS (f : En → Out D) : TE := fun σ H Q => ∃ ρ O, SR Z A H O σ ρ ∧ (f ρ).Post (fun d ρ' => ∀ v H' O', Ext H O H' O' → SR Z A H' O' σ ρ' → Rep Z H' O' v d → Q v H') (ErP Z A W H O)
def tT (f : En → Out Bool) : TT := fun σ H Q => ∃ ρ O, SR Z A H O σ ρ ∧ (f ρ).Post (fun b ρ' => ∀ H' O', Ext H O H' O' → SR Z A H' O' σ ρ' → Q b H') (ErP Z A W H O)
def tA (f : En → Out (List D)) : TA := fun σ H Q => ∃ ρ O, SR Z A H O σ ρ ∧ (f ρ).Post (fun ds ρ' => ∀ vs H' O', Ext H O H' O' → SR Z A H' O' σ ρ' → Reps Z H' O' vs ds → Q vs H') (ErP Z A W H O)
/-- of a new list, of which nobody else knows -/
def tF (f : En → Out (List D)) : TE := fun σ H Q => ∃ ρ O, SR Z A H O σ ρ ∧ (f ρ).Post (fun ds ρ' => ∀ p xs H' O', Ext H O H' O' → H p = none → p ∉ O' → H' p = some (.lst xs) → SR Z A H' O' σ ρ' → SR Z A H' (p :: O') σ ρ' → Reps Z H' (p :: O') xs ds → Q (.ref p) H') (ErP Z A W H O)
end
section
variable {X : Cx} {e : Expr}
theorem PE.weak {t t' : TE} (h : PE X e t) (w : ∀ σ H Q, t' σ H Q → t σ H Q) : PE X e t' := ⟨fun pins s σ H Q I q => h.run pins s σ H Q I (w σ H Q q)⟩
theorem PT.weak {t t' : TT} (h : PT X e t) (w : ∀ σ H Q, t' σ H Q → t σ H Q) : PT X e t' := ⟨fun pins s σ H Q I q => h.run pins s σ H Q I (w σ H Q q)⟩
theorem PA.weak {es : List Expr} {t t' : TA} (h : PA X es t) (w : ∀ σ H Q, t' σ H Q → t σ H Q) : PA X es t' := ⟨fun pos pins s σ H Q I q => h.run pos pins s σ H Q I (w σ H Q q)⟩
theorem PS.weak {st : Stmt} {t t' : TS} (h : PS X st t) (w : ∀ D σ H, t' D σ H → t D σ H) : PS X st t' := ⟨fun pins s σ H D I q => h.run pins s σ H D I (w D σ H q)⟩
theorem PSs.weak {st : List Stmt} {t t' : TS} (h : PSs X st t) (w : ∀ D σ H, t' D σ H → t D σ H) : PSs X st t' := ⟨fun pins s σ H D I q => h.run pins s σ H D I (w D σ H q)⟩
end
section
variable {Z : Zx} {A : An} {H H' : Hp} {O O' : List Addr} {σ : L2.St} {ρ : En}
theorem Ext.pop {p : Addr} : Ext H (p :: O) H O := Ext.sub fun b h => List.mem_cons_of_mem _ h
/-- what was there is there -/
theorem same_dom {b : Addr} (e : Same H H') (h : H b ≠ none) : H' b ≠ none := fun z => by
  cases q : H b with
  | none => exact h q
  | some u => rw [e b u q] at z; cases z
theorem SR.pop {p : Addr} (s : SR Z A H (p :: O) σ ρ) (hp : p ∉ A.O) (hn : ∀ (i : Nat) (d : D), ρ[i]? = some (.o d) → σ[i]? ≠ some (some (.ref p))) : SR Z A H O σ ρ where
  len := s.len
  val := fun i d e => let ⟨v, h1, h2⟩ := s.val i d e; ⟨v, h1, h2.ext Ext.pop⟩
  own := fun i d e => by
    obtain ⟨a, h1, ⟨xs, ds, e1, e2, e3, e4⟩, h3⟩ := s.own i d e
    refine ⟨a, h1, ⟨xs, ds, e1, ?_, e3, e4.ext Ext.pop⟩, h3⟩
    rcases List.mem_cons.mp e2 with z | z
    · rw [z] at h1
      exact absurd h1 (hn i d e)
    · exact z
  sep := s.sep
  tabs := s.tabs
  anc := s.anc
  dom := s.dom
  sub := fun b hb => by
    rcases List.mem_cons.mp (s.sub b hb) with z | z
    · rw [z] at hb; exact absurd hb hp
    · exact z
  trk := fun b hb => s.trk b (List.mem_cons_of_mem _ hb)
  io := s.io
theorem Ext.same (e : Same H H') : Ext H O H' O := fun b u h n _ => ⟨e b u h, n⟩
/-- all that was tracked stays: more may be there -/
theorem SR.same (s : SR Z A H O σ ρ) (e : Same H H') : SR Z A H' O σ ρ where
  len := s.len
  val := fun i d h => let ⟨v, h1, h2⟩ := s.val i d h; ⟨v, h1, h2.ext (Ext.same e)⟩
  own := fun i d h => let ⟨a, h1, ⟨xs, ds, e1, e2, e3, e4⟩, h3⟩ := s.own i d h; ⟨a, h1, ⟨xs, ds, e1, e2, e _ _ e3, e4.ext (Ext.same e)⟩, h3⟩
  sep := s.sep
  tabs := s.tabs.ext e
  anc := fun b u h n t => e b u (s.anc b u h n t)
  dom := fun b h => same_dom e (s.dom b h)
  sub := s.sub
  trk := fun b hb => let ⟨u, h, n, l⟩ := s.trk b hb; ⟨u, e _ _ h, n, l⟩
  io := s.io
theorem SR.fresh (s : SR Z A H O σ ρ) {p : Addr} (h : H p = none) : p ∉ O := fun z => (s.trk p z).ne h
theorem same_new {p : Addr} {o : HO} (h : H p = none) : Same H (upd H p o) := fun b x e => by
  rw [upd_ne (ne_of_none e h)]
  exact e
end
end Ev
set_option Elab.async false
set_option maxRecDepth 100000
set_option maxHeartbeats 4000000
/-! EvB: data and its equality; operators by values. -/
namespace Ev
open PySem PySem.Spec PyProof.Rows L2

/-! ### data -/
mutual
def D.toP : D → PyData
  | .non => .none
  | .bl b => .bool b
  | .int i => .int i
  | .str s => .str s
  | .tup xs => .tuple (Ds.toP xs)
  | .lst xs => .list (Ds.toP xs)
  | .dic _ => .none
  | .clo _ _ => .none
  | .obj _ _ => .none
  | .scr _ => .none
def Ds.toP : List D → List PyData
  | [] => []
  | d :: ds => D.toP d :: Ds.toP ds
end
mutual
def D.data : D → Bool
  | .tup xs => Ds.data xs
  | .lst xs => Ds.data xs
  | .dic _ => false
  | .clo _ _ => false
  | .obj _ _ => false
  | .scr _ => false
  | .non => true
  | .bl _ => true
  | .int _ => true
  | .str _ => true
def Ds.data : List D → Bool
  | [] => true
  | d :: ds => D.data d && Ds.data ds
end
theorem Ds.toP_map : ∀ ds : List D, Ds.toP ds = ds.map D.toP
  | [] => rfl
  | d :: ds => by simp [Ds.toP, Ds.toP_map ds]
theorem Ds.data_all : ∀ ds : List D, Ds.data ds = ds.all D.data
  | [] => rfl
  | d :: ds => by simp [Ds.data, Ds.data_all ds]
section
variable {Z : Zx} {H : Hp} {O : List Addr}
theorem SqT.ofK {K : PySem.W.Frag} {a : Addr} {xs : List V} (h : SqT K (fun _ => none) a xs) (H : Hp) : SqT K H a xs := by
  rcases h with (h | ⟨o, h⟩) | h
  · cases h
  · cases h
  · exact .inr h
mutual
theorem Rep.dp {v : V} {d : D} : Rep Z H O v d → d.data = true → Dp Z.K H v d.toP
  | .non, _ => .non
  | .bl b, _ => .bl b
  | .int i, _ => .int i
  | .str s _, _ => .str s
  | .tup h r, e => .tup (.inl (.inl h.1)) (Reps.dp r e)
  | .tupK h r, e => .tup (SqT.ofK h H) (Reps.dp r e)
  | .lst h r, e => .lst (.inl (.inl h.1)) (Reps.dp r e)
  | .scr _, e => nomatch e
  | .scrK _, e => nomatch e
  | .dic0 _, e => nomatch e
  | .clo _ _ _ _ _, e => nomatch e
theorem Reps.dp {vs : List V} {ds : List D} : Reps Z H O vs ds → Ds.data ds = true → DpAll Z.K H vs (Ds.toP ds)
  | .nil, _ => .nil
  | .cons r t, e => by
    have q : (D.data _ && Ds.data _) = true := e
    rw [Bool.and_eq_true] at q
    exact .cons (Rep.dp r q.1) (Reps.dp t q.2)
end
mutual
theorem Rep.lay {v : V} {d : D} : Rep Z H O v d → d.data = true → d.toP.canLay0 = true
  | .non, _ => rfl
  | .bl b, _ => rfl
  | .int i, _ => rfl
  | .str s h, _ => h
  | .tup h r, e => Reps.lay r e
  | .tupK h r, e => Reps.lay r e
  | .lst h r, e => Reps.lay r e
  | .scr _, e => nomatch e
  | .scrK _, e => nomatch e
  | .dic0 _, e => nomatch e
  | .clo _ _ _ _ _, e => nomatch e
theorem Reps.lay {vs : List V} {ds : List D} : Reps Z H O vs ds → Ds.data ds = true → PyData.canLayAll0 (Ds.toP ds) = true
  | .nil, _ => rfl
  | .cons r t, e => by
    have q : (D.data _ && Ds.data _) = true := e
    rw [Bool.and_eq_true] at q
    show (PyData.canLay0 _ && PyData.canLayAll0 _) = true
    rw [Rep.lay r q.1, Reps.lay t q.2] <;> rfl
end
end
/-- == of two values -/
def eqD (d e : D) : Option Bool := if (d.data && e.data && decide (min d.toP.depth e.toP.depth ≤ 64)) = true then some (PyData.eqv d.toP e.toP) else none
/-- x in xs -/
def inDs (x : D) (xs : List D) : Option Bool := if (x.data && Ds.data xs && decide (min (PyData.depthAll (Ds.toP xs)) x.toP.depth ≤ 63)) = true then some (xs.any fun y => PyData.eqv y.toP x.toP) else none

/-! ### truth -/
def D.truth : D → Option Bool
  | .non => some false
  | .bl b => some b
  | .int i => some (i != 0)
  | .str s => if s.length ≤ sizeLine then some ((s.length : Int) != 0) else none
  | .tup xs => some (!xs.isEmpty)
  | .lst xs => some (!xs.isEmpty)
  | .dic [] => some false
  | .dic (_ :: _) => none
  | _ => none

/-! ### operators -/
def CMulB (i j : Int) : Bool := (decide (-(2 ^ 64) < i) && decide (i < 2 ^ 64)) || (decide (-(2 ^ 64) < j) && decide (j < 2 ^ 64))
def opAdd : D → D → Option D
  | .int i, .int j => some (.int (i + j))
  | .str a, .str b => if a.length + b.length ≤ sizeLine then some (.str (a ++ b)) else none
  | .tup a, .tup b => if a.length + b.length ≤ sizeLine then some (.tup (a ++ b)) else none
  | .lst a, .lst b => if a.length + b.length ≤ sizeLine then some (.lst (a ++ b)) else none
  | _, _ => none
def opSub : D → D → Option D
  | .int i, .int j => some (.int (i - j))
  | _, _ => none
def opMul : D → D → Option D
  | .int i, .int j => if CMulB i j then some (.int (i * j)) else none
  | .tup a, .int k => if a ≠ [] ∧ 2 ≤ k ∧ k ≤ 1000 ∧ a.length ≤ 1000 then some (.tup (List.replicate k.toNat a).flatten) else none
  | .lst a, .int k => if -(2 ^ 63) ≤ k ∧ k < 2 ^ 63 ∧ a.length * k.toNat ≤ sizeLine then some (.lst (List.replicate k.toNat a).flatten) else none
  | _, _ => none
def opFdiv : D → D → Option D
  | .int i, .int j => if 0 < j ∧ j < 1073741824 then some (.int (i / j)) else none
  | _, _ => none
def opMod : D → D → Option D
  | .int i, .int j => if 0 < j then some (.int (i % j)) else none
  | _, _ => none
def opPow : D → D → Option D
  | .int i, .int j => if 0 ≤ j ∧ j ≤ 1000000 ∧ i.natAbs < 2 ^ 64 then some (.int (i ^ j.toNat)) else none
  | _, _ => none
def binD : Operator → D → D → Option D
  | .Add => opAdd
  | .Sub => opSub
  | .Mult => opMul
  | .FloorDiv => opFdiv
  | .Mod => opMod
  | .Pow => opPow
  | _ => fun _ _ => none
/-- order: ints, texts -/
def ltD : D → D → Option Bool
  | .int i, .int j => some (decide (i < j))
  | .str a, .str b => some (decide (a.cps.toList < b.cps.toList))
  | _, _ => none
def leD : D → D → Option Bool
  | .int i, .int j => some (decide (i ≤ j))
  | _, _ => none
def D.isNon : D → Bool
  | .non => true
  | _ => false
def isD : D → D → Option Bool
  | a, .non => some a.isNon
  | .bl b, .bl c => some (decide (b = c))
  | _, _ => none
def seqOf : D → Option (List D)
  | .tup xs => some xs
  | .lst xs => some xs
  | _ => none
def inD : D → D → Option Bool
  | .str a, .str z => (match a.cps.toList with
    | [c] => some (decide (c ∈ z.cps.toList))
    | _ => some (!(Builtin.Str.occurrences z a 0 z.length 1).isEmpty))
  | x, y => (seqOf y).bind (inDs x)
def cmpD : CmpOp → D → D → Option Bool
  | .Lt, a, b => ltD a b
  | .Gt, a, b => ltD b a
  | .LtE, a, b => leD a b
  | .GtE, a, b => leD b a
  | .Eq, a, b => eqD a b
  | .NotEq, a, b => (eqD a b).map (!·)
  | .In, a, b => inD a b
  | .NotIn, a, b => (inD a b).map (!·)
  | .Is, a, b => isD a b
  | .IsNot, a, b => (isD a b).map (!·)

/-- the made functions and the tables that a law knows -/
structure Lx where
  lam : Nat → LamI → Bool
  T : List NdefX.NTab
abbrev zx (X : Cx) (L : Lx) : Zx := ⟨X.K, X.mg, L.lam, L.T, X.w⟩
/-- a two-place operation, told by g -/
def Op2 (X : Cx) (L : Lx) (f : Value → Value → Sem Value) (g : D → D → Option D) : Prop :=
  ∃ r : R2, OpR X f r ∧ ∀ (H : Hp) (O : List Addr) (v w : V) (d e z : D) (Q : VK), (∀ b ∈ O, Trk H b) → Rep (zx X L) H O v d → Rep (zx X L) H O w e → g d e = some z →
    (∀ u H', Same H H' → Rep (zx X L) H' O u z → Q u H') → r v w H Q
theorem OpR.or {X : Cx} {f : Value → Value → Sem Value} {r r' : R2} (h : OpR X f r) (h' : OpR X f r') : OpR X f (fun x y H Q => r x y H Q ∨ r' x y H Q) := by
  intro pins s σ H x y v u Q I rx ry q
  rcases q with q | q
  · exact h pins s σ H x y v u Q I rx ry q
  · exact h' pins s σ H x y v u Q I rx ry q
section
variable {X : Cx} {L : Lx} {H : Hp} {O : List Addr}
theorem Rep.tupSq {a : V} {ds : List D} (r : Rep (zx X L) H O a (.tup ds)) : ∃ p xs, a = .ref p ∧ SqT X.K H p xs ∧ Reps (zx X L) H O xs ds := by
  cases r with
  | tup h q => exact ⟨_, _, rfl, .inl (.inl h.1), q⟩
  | tupK h q => exact ⟨_, _, rfl, SqT.ofK h H, q⟩
theorem Rep.lstH {a : V} {ds : List D} (r : Rep (zx X L) H O a (.lst ds)) : ∃ p xs, a = .ref p ∧ H p = some (.lst xs) ∧ p ∉ O ∧ Reps (zx X L) H O xs ds := by
  cases r with
  | lst h q => exact ⟨_, _, rfl, h.1, h.2, q⟩
theorem SqL.ofK {K : PySem.W.Frag} {a : Addr} {xs : List V} (h : SqL K (fun _ => none) a xs) (H : Hp) : SqL K H a xs := by
  rcases h with (h | ⟨o, h⟩) | h
  · cases h
  · cases h
  · exact .inr h
theorem Rep.scrSq {a : V} {ns : List Int} (r : Rep (zx X L) H O a (.scr ns)) : ∃ p, a = .ref p ∧ SqL X.K H p (ns.map V.int) := by
  cases r with
  | scr h => exact ⟨_, rfl, .inl (.inr ⟨_, h.1⟩)⟩
  | scrK h => exact ⟨_, rfl, SqL.ofK h H⟩
theorem fresh_of {p : Addr} (t : ∀ b ∈ O, Trk H b) (h : H p = none) : p ∉ O := fun z => (t p z).ne h
theorem Rep.newT {p : Addr} {xs : List V} {ds : List D} (t : ∀ b ∈ O, Trk H b) (h : H p = none) (r : Reps (zx X L) H O xs ds) : Rep (zx X L) (upd H p (.tup xs)) O (.ref p) (.tup ds) :=
  .tup ⟨upd_same, fresh_of t h⟩ (r.ext (Ext.upd h))
theorem Rep.newL {p : Addr} {xs : List V} {ds : List D} (t : ∀ b ∈ O, Trk H b) (h : H p = none) (r : Reps (zx X L) H O xs ds) : Rep (zx X L) (upd H p (.lst xs)) O (.ref p) (.lst ds) :=
  .lst ⟨upd_same, fresh_of t h⟩ (r.ext (Ext.upd h))
theorem Reps.rep {xs : List V} {ds : List D} (r : Reps (zx X L) H O xs ds) : ∀ k : Nat, Reps (zx X L) H O (List.replicate k xs).flatten (List.replicate k ds).flatten
  | 0 => .nil
  | k + 1 => by
    rw [List.replicate_succ, List.replicate_succ, List.flatten_cons, List.flatten_cons]
    exact r.append (Reps.rep r k)
theorem Reps.nil_iff {xs : List V} {ds : List D} (r : Reps (zx X L) H O xs ds) : xs = [] ↔ ds = [] := by
  cases r <;> simp
theorem strOk_app {a b : Str} (ha : PyData.strOk a = true) (hb : PyData.strOk b = true) : PyData.strOk (a ++ b) = true := by
  unfold PyData.strOk at *
  show ((a.cps ++ b.cps).all _) = true
  rw [Array.all_append, ha, hb] <;> rfl
end
section
variable {X : Cx} {L : Lx}
theorem op2_add : Op2 X L (binaryOp .Add) opAdd := by
  refine ⟨_, (op_add (X := X)).or (op_add_str.or (op_catA.or op_cat)), fun H O v w d e z Q t rv rw hz q => ?_⟩
  cases rv with
  | int i =>
    cases rw with
    | int j =>
      cases hz
      exact .inl ⟨i, j, rfl, rfl, q _ H (Same.refl H) (.int _)⟩
    | _ => cases hz
  | str a ha =>
    cases rw with
    | str b hb =>
      simp only [opAdd] at hz
      split at hz
      · rename_i hl
        cases hz
        exact .inr (.inl ⟨a, b, rfl, rfl, hl, q _ H (Same.refl H) (.str _ (strOk_app ha hb))⟩)
      · cases hz
    | _ => cases hz
  | lst h1 r1 =>
    cases rw with
    | lst h2 r2 =>
      simp only [opAdd] at hz
      split at hz
      · rename_i hl
        cases hz
        refine .inr (.inr (.inr ⟨_, _, _, _, rfl, rfl, h1.1, h2.1, by rw [r1.length, r2.length]; exact hl, fun p hp => q _ _ (same_new hp) (Rep.newL t hp (r1.append r2))⟩))
      · cases hz
    | _ => cases hz
  | scr _ => cases hz
  | scrK _ => cases hz
  | non => cases hz
  | bl _ => cases hz
  | dic0 _ => cases hz
  | dicN _ _ => cases hz
  | clo _ _ _ _ _ => cases hz
  | tup h1 r1 =>
    rename_i a xs ds
    have hd : Rep (zx X L) H O (.ref a) (.tup ds) := .tup h1 r1
    revert hz
    cases e with
    | tup es =>
      intro hz
      obtain ⟨p2, ys, rfl, s2, r2⟩ := rw.tupSq
      simp only [opAdd] at hz
      split at hz
      · rename_i hl
        cases hz
        refine .inr (.inr (.inl ⟨a, p2, xs, ys, rfl, rfl, .inl (.inl h1.1), s2, by rw [r1.length, r2.length]; exact hl, fun z => ?_, fun _ z => ?_, fun _ _ p hp => q _ _ (same_new hp) (Rep.newT t hp (r1.append r2))⟩))
        · rw [r1.nil_iff.mp z, List.nil_append] at q
          exact q _ H (Same.refl H) rw
        · rw [r2.nil_iff.mp z, List.append_nil] at q
          exact q _ H (Same.refl H) hd
      · cases hz
    | _ => intro hz; cases hz
  | tupK h1 r1 =>
    rename_i a xs ds
    have hd : Rep (zx X L) H O (.ref a) (.tup ds) := .tupK h1 r1
    revert hz
    cases e with
    | tup es =>
      intro hz
      obtain ⟨p2, ys, rfl, s2, r2⟩ := rw.tupSq
      simp only [opAdd] at hz
      split at hz
      · rename_i hl
        cases hz
        refine .inr (.inr (.inl ⟨a, p2, xs, ys, rfl, rfl, SqT.ofK h1 H, s2, by rw [r1.length, r2.length]; exact hl, fun z => ?_, fun _ z => ?_, fun _ _ p hp => q _ _ (same_new hp) (Rep.newT t hp (r1.append r2))⟩))
        · rw [r1.nil_iff.mp z, List.nil_append] at q
          exact q _ H (Same.refl H) rw
        · rw [r2.nil_iff.mp z, List.append_nil] at q
          exact q _ H (Same.refl H) hd
      · cases hz
    | _ => intro hz; cases hz
/-- two ints -/
theorem op2_int {f : Value → Value → Sem Value} {C : Int → Int → Prop} {r : Int → Int → V} {g : D → D → Option D} (h : OpR X f (rI C r))
    (hg : ∀ d e z, g d e = some z → ∃ i j, d = .int i ∧ e = .int j ∧ C i j ∧ ∀ (H : Hp) O, Rep (zx X L) H O (r i j) z) : Op2 X L f g := by
  refine ⟨_, h, fun H O v w d e z Q t rv rw hz q => ?_⟩
  obtain ⟨i, j, rfl, rfl, hc, hr⟩ := hg d e z hz
  cases rv
  cases rw
  exact ⟨i, j, rfl, rfl, hc, q _ H (Same.refl H) (hr H O)⟩
theorem op2_sub : Op2 X L (binaryOp .Sub) opSub := by
  refine ⟨_, op_sub (X := X), fun H O v w d e z Q t rv rw hz q => ?_⟩
  cases rv with
  | int i =>
    cases rw with
    | int j =>
      cases hz
      exact ⟨i, j, rfl, rfl, q _ H (Same.refl H) (.int _)⟩
    | _ => cases hz
  | _ => cases hz
theorem op2_fdiv : Op2 X L (binaryOp .FloorDiv) opFdiv := op2_int op_fdiv fun d e z h => by
  unfold opFdiv at h
  split at h
  · split at h
    · rename_i i j c
      cases h
      exact ⟨i, j, rfl, rfl, c, fun _ _ => .int _⟩
    · cases h
  · cases h
theorem op2_mod : Op2 X L (binaryOp .Mod) opMod := op2_int op_mod fun d e z h => by
  unfold opMod at h
  split at h
  · split at h
    · rename_i i j c
      cases h
      exact ⟨i, j, rfl, rfl, c, fun _ _ => .int _⟩
    · cases h
  · cases h
theorem op2_pow : Op2 X L (binaryOp .Pow) opPow := op2_int op_pow fun d e z h => by
  unfold opPow at h
  split at h
  · split at h
    · rename_i i j c
      cases h
      exact ⟨i, j, rfl, rfl, c, fun _ _ => .int _⟩
    · cases h
  · cases h
theorem CMulB.ok {i j : Int} (h : CMulB i j = true) : CMul i j := by
  unfold CMulB at h
  simp only [Bool.or_eq_true, Bool.and_eq_true, decide_eq_true_eq] at h
  exact h
theorem op2_mul : Op2 X L (binaryOp .Mult) opMul := by
  refine ⟨_, (op_mul (X := X)).or (op_repT.or op_rep), fun H O v w d e z Q t rv rw hz q => ?_⟩
  cases d with
  | int i =>
    cases e with
    | int j =>
      cases rv; cases rw
      simp only [opMul] at hz
      split at hz
      · rename_i hc
        cases hz
        exact .inl ⟨i, j, rfl, rfl, CMulB.ok hc, q _ H (Same.refl H) (.int _)⟩
      · cases hz
    | _ => cases hz
  | tup ds =>
    cases e with
    | int k =>
      cases rw
      obtain ⟨p, xs, rfl, s1, r1⟩ := rv.tupSq
      simp only [opMul] at hz
      split at hz
      · rename_i hc
        cases hz
        exact .inr (.inl ⟨p, k, xs, rfl, rfl, s1, fun z => hc.1 (r1.nil_iff.mp z), hc.2.1, hc.2.2.1, by rw [r1.length]; exact hc.2.2.2, fun l hl => q _ _ (same_new hl) (Rep.newT t hl (r1.rep _))⟩)
      · cases hz
    | _ => cases hz
  | lst ds =>
    cases e with
    | int k =>
      cases rw
      obtain ⟨p, xs, rfl, s1, n1, r1⟩ := rv.lstH
      simp only [opMul] at hz
      split at hz
      · rename_i hc
        cases hz
        exact .inr (.inr ⟨p, k, xs, rfl, rfl, s1, hc.1, hc.2.1, by rw [r1.length]; exact hc.2.2, fun l hl => q _ _ (same_new hl) (Rep.newL t hl (r1.rep _))⟩)
      · cases hz
    | _ => cases hz
  | _ => cases hz
theorem op2_bin (op : Operator) : Op2 X L (binaryOp op) (binD op) := by
  cases op with
  | Add => exact op2_add
  | Sub => exact op2_sub
  | Mult => exact op2_mul
  | FloorDiv => exact op2_fdiv
  | Mod => exact op2_mod
  | Pow => exact op2_pow
  | _ => exact ⟨fun _ _ _ _ => False, fun _ _ _ _ _ _ _ _ _ _ _ _ q => q.elim, fun H O v w d e z Q t rv rw hz q => by cases hz⟩

/-! ### comparisons -/
def rEqP (K : PySem.W.Frag) : R2 := fun x y H Q => ∃ d e, Dp K H x d ∧ Dp K H y e ∧ d.canLay0 = true ∧ e.canLay0 = true ∧ min d.depth e.depth ≤ 64 ∧ Q (.bl (PyData.eqv d e)) H
theorem op_eqP (hu : X.A.units + 64 < cLine) : OpR X (compareOp .Eq) (rEqP X.K) := by
  intro pins s σ H x y v u Q I rx ry h
  obtain ⟨d, e, hd, he, sd, se, hm, q⟩ := h
  obtain ⟨as, r1⟩ := Dp.reads I d x v hd rx
  obtain ⟨bs, r2⟩ := Dp.reads I e y u he ry
  exact SeqAt.compareEq_reads r1 r2 sd se (by omega) ⟨.bl _, H, I, rfl, q⟩
def rNeP (K : PySem.W.Frag) : R2 := fun x y H Q => ∃ d e, Dp K H x d ∧ Dp K H y e ∧ d.canLay0 = true ∧ e.canLay0 = true ∧ min d.depth e.depth ≤ 64 ∧ Q (.bl (!PyData.eqv d e)) H
theorem op_neP (hu : X.A.units + 64 < cLine) : OpR X (compareOp .NotEq) (rNeP X.K) := by
  intro pins s σ H x y v u Q I rx ry h
  obtain ⟨d, e, hd, he, sd, se, hm, q⟩ := h
  obtain ⟨as, r1⟩ := Dp.reads I d x v hd rx
  obtain ⟨bs, r2⟩ := Dp.reads I e y u he ry
  exact SeqAt.compareNe_reads r1 r2 sd se (by omega) ⟨.bl _, H, I, rfl, q⟩
def rInP (K : PySem.W.Frag) : R2 := fun x y H Q => ∃ d ds, Dp K H x d ∧ (Dp K H y (.list ds) ∨ Dp K H y (.tuple ds)) ∧ d.canLay0 = true ∧ PyData.canLayAll0 ds = true ∧ min (PyData.depthAll ds) d.depth ≤ 63 ∧ Q (.bl (ds.any fun z => PyData.eqv z d)) H
theorem op_inP (hu : X.A.units + 64 < cLine) : OpR X (compareOp .In) (rInP X.K) := by
  intro pins s σ H x y v u Q I rx ry h
  obtain ⟨d, ds, hd, he, sd, se, hm, q⟩ := h
  obtain ⟨as, r1⟩ := Dp.reads I d x v hd rx
  rcases he with he | he
  · obtain ⟨bs, r2⟩ := Dp.reads I _ y u he ry
    exact SeqAt.in_list_reads r2 r1 se sd (by omega) ⟨.bl _, H, I, rfl, q⟩
  · obtain ⟨bs, r2⟩ := Dp.reads I _ y u he ry
    exact SeqAt.in_tuple_reads r2 r1 se sd (by omega) ⟨.bl _, H, I, rfl, q⟩
def rNotInP (K : PySem.W.Frag) : R2 := fun x y H Q => ∃ d ds, Dp K H x d ∧ (Dp K H y (.list ds) ∨ Dp K H y (.tuple ds)) ∧ d.canLay0 = true ∧ PyData.canLayAll0 ds = true ∧ min (PyData.depthAll ds) d.depth ≤ 63 ∧ Q (.bl (!ds.any fun z => PyData.eqv z d)) H
theorem op_notInP (hu : X.A.units + 64 < cLine) : OpR X (compareOp .NotIn) (rNotInP X.K) := by
  intro pins s σ H x y v u Q I rx ry h
  obtain ⟨d, ds, hd, he, sd, se, hm, q⟩ := h
  obtain ⟨as, r1⟩ := Dp.reads I d x v hd rx
  rcases he with he | he
  · obtain ⟨bs, r2⟩ := Dp.reads I _ y u he ry
    exact SeqAt.notIn_list_reads r2 r1 se sd (by omega) ⟨.bl _, H, I, rfl, q⟩
  · obtain ⟨bs, r2⟩ := Dp.reads I _ y u he ry
    exact SeqAt.notIn_tuple_reads r2 r1 se sd (by omega) ⟨.bl _, H, I, rfl, q⟩
def mapB (g : D → D → Option Bool) : D → D → Option D := fun d e => (g d e).map D.bl
theorem mapB_some {g : D → D → Option Bool} {d e z : D} (h : mapB g d e = some z) : ∃ b, g d e = some b ∧ z = .bl b := by
  unfold mapB at h
  cases q : g d e with
  | none => rw [q] at h; cases h
  | some b => rw [q] at h; cases h; exact ⟨b, rfl, rfl⟩
theorem eqD_some {d e : D} {b : Bool} (h : eqD d e = some b) : d.data = true ∧ e.data = true ∧ min d.toP.depth e.toP.depth ≤ 64 ∧ b = PyData.eqv d.toP e.toP := by
  unfold eqD at h
  split at h
  · rename_i c
    cases h
    simp only [Bool.and_eq_true, decide_eq_true_eq] at c
    exact ⟨c.1.1, c.1.2, c.2, rfl⟩
  · cases h
theorem toPs_any (x : D) : ∀ xs : List D, ((Ds.toP xs).any fun z => PyData.eqv z x.toP) = xs.any fun y => PyData.eqv y.toP x.toP
  | [] => rfl
  | y :: ys => by rw [Ds.toP, List.any_cons, List.any_cons, toPs_any x ys]
theorem inDs_some {x : D} {xs : List D} {b : Bool} (h : inDs x xs = some b) : x.data = true ∧ Ds.data xs = true ∧ min (PyData.depthAll (Ds.toP xs)) x.toP.depth ≤ 63 ∧ b = (Ds.toP xs).any fun z => PyData.eqv z x.toP := by
  unfold inDs at h
  split at h
  · rename_i c
    cases h
    simp only [Bool.and_eq_true, decide_eq_true_eq] at c
    exact ⟨c.1.1, c.1.2, c.2, (toPs_any x xs).symm⟩
  · cases h
theorem Rep.seqDp {H : Hp} {O : List Addr} {w : V} {e : D} {xs : List D} (r : Rep (zx X L) H O w e) (h : seqOf e = some xs) (hd : Ds.data xs = true) :
    (Dp X.K H w (.list (Ds.toP xs)) ∨ Dp X.K H w (.tuple (Ds.toP xs))) ∧ PyData.canLayAll0 (Ds.toP xs) = true := by
  cases e with
  | tup ys => cases h; exact ⟨.inr (r.dp hd), r.lay hd⟩
  | lst ys => cases h; exact ⟨.inl (r.dp hd), r.lay hd⟩
  | _ => cases h
theorem op2_eq (hu : X.A.units + 64 < cLine) : Op2 X L (compareOp .Eq) (mapB (cmpD .Eq)) := by
  refine ⟨_, op_eqP hu, fun H O v w d e z Q t rv rw hz q => ?_⟩
  obtain ⟨b, hb, rfl⟩ := mapB_some hz
  obtain ⟨h1, h2, h3, rfl⟩ := eqD_some hb
  exact ⟨_, _, rv.dp h1, rw.dp h2, rv.lay h1, rw.lay h2, h3, q _ H (Same.refl H) (.bl _)⟩
theorem op2_ne (hu : X.A.units + 64 < cLine) : Op2 X L (compareOp .NotEq) (mapB (cmpD .NotEq)) := by
  refine ⟨_, op_neP hu, fun H O v w d e z Q t rv rw hz q => ?_⟩
  obtain ⟨b, hb, rfl⟩ := mapB_some hz
  obtain ⟨c, hc, rfl⟩ := Option.map_eq_some_iff.mp hb
  obtain ⟨h1, h2, h3, rfl⟩ := eqD_some hc
  exact ⟨_, _, rv.dp h1, rw.dp h2, rv.lay h1, rw.lay h2, h3, q _ H (Same.refl H) (.bl _)⟩
theorem op2_in (hu : X.A.units + 64 < cLine) : Op2 X L (compareOp .In) (mapB (cmpD .In)) := by
  refine ⟨_, (op_inP hu).or (op_in_sign.or op_in_str), fun H O v w d e z Q t rv rw hz q => ?_⟩
  obtain ⟨b, hb, rfl⟩ := mapB_some hz
  have hb2 : inD d e = some b := hb
  clear hb
  have hb : inD d e = some b := hb2
  clear hb2
  unfold inD at hb
  split at hb
  · cases rv; cases rw
    split at hb
    · rename_i a z ha hz' l c hc
      cases hb
      refine .inr (.inl ⟨c, z, ?_, rfl, q _ H (Same.refl H) (.bl _)⟩)
      obtain ⟨⟨l⟩⟩ := a
      have hc : l = [c] := hc
      rw [hc]
    · cases hb
      exact .inr (.inr ⟨_, _, rfl, rfl, q _ H (Same.refl H) (.bl _)⟩)
  · obtain ⟨xs, hs, hi⟩ := Option.bind_eq_some_iff.mp hb
    obtain ⟨h1, h2, h3, rfl⟩ := inDs_some hi
    obtain ⟨r1, r2⟩ := rw.seqDp hs h2
    exact .inl ⟨_, _, rv.dp h1, r1, rv.lay h1, r2, h3, q _ H (Same.refl H) (.bl _)⟩
theorem op2_notIn (hu : X.A.units + 64 < cLine) : Op2 X L (compareOp .NotIn) (mapB (cmpD .NotIn)) := by
  refine ⟨_, (op_notInP hu).or (op_notIn_sign.or op_notIn_str), fun H O v w d e z Q t rv rw hz q => ?_⟩
  obtain ⟨b, hb, rfl⟩ := mapB_some hz
  obtain ⟨c0, hb2, rfl⟩ := Option.map_eq_some_iff.mp (show (inD d e).map (!·) = some b from hb)
  clear hb
  have hb : inD d e = some c0 := hb2
  unfold inD at hb
  split at hb
  · cases rv; cases rw
    split at hb
    · rename_i a z ha hz' l c hc
      cases hb
      refine .inr (.inl ⟨c, z, ?_, rfl, q _ H (Same.refl H) (.bl _)⟩)
      obtain ⟨⟨l⟩⟩ := a
      have hc : l = [c] := hc
      rw [hc]
    · cases hb
      exact .inr (.inr ⟨_, _, rfl, rfl, q _ H (Same.refl H) (.bl _)⟩)
  · obtain ⟨xs, hs, hi⟩ := Option.bind_eq_some_iff.mp hb
    obtain ⟨h1, h2, h3, rfl⟩ := inDs_some hi
    obtain ⟨r1, r2⟩ := rw.seqDp hs h2
    exact .inl ⟨_, _, rv.dp h1, r1, rv.lay h1, r2, h3, q _ H (Same.refl H) (.bl _)⟩
theorem op2_lt : Op2 X L (compareOp .Lt) (mapB (cmpD .Lt)) := by
  refine ⟨_, (op_lt (X := X)).or op_lt_str, fun H O v w d e z Q t rv rw hz q => ?_⟩
  obtain ⟨b, hb, rfl⟩ := mapB_some hz
  have hb : ltD d e = some b := hb
  unfold ltD at hb
  split at hb
  · cases hb; cases rv; cases rw; exact .inl ⟨_, _, rfl, rfl, q _ H (Same.refl H) (.bl _)⟩
  · cases hb; cases rv; cases rw; exact .inr ⟨_, _, rfl, rfl, q _ H (Same.refl H) (.bl _)⟩
  · cases hb
theorem op2_gt : Op2 X L (compareOp .Gt) (mapB (cmpD .Gt)) := by
  refine ⟨_, (op_gt (X := X)).or op_gt_str, fun H O v w d e z Q t rv rw hz q => ?_⟩
  obtain ⟨b, hb, rfl⟩ := mapB_some hz
  have hb : ltD e d = some b := hb
  unfold ltD at hb
  split at hb
  · cases hb; cases rv; cases rw; exact .inl ⟨_, _, rfl, rfl, q _ H (Same.refl H) (.bl _)⟩
  · cases hb; cases rv; cases rw; exact .inr ⟨_, _, rfl, rfl, q _ H (Same.refl H) (.bl _)⟩
  · cases hb
theorem op2_le : Op2 X L (compareOp .LtE) (mapB (cmpD .LtE)) := by
  refine ⟨_, op_le (X := X), fun H O v w d e z Q t rv rw hz q => ?_⟩
  obtain ⟨b, hb, rfl⟩ := mapB_some hz
  have hb : leD d e = some b := hb
  unfold leD at hb
  split at hb
  · cases hb; cases rv; cases rw; exact ⟨_, _, rfl, rfl, q _ H (Same.refl H) (.bl _)⟩
  · cases hb
theorem op2_ge : Op2 X L (compareOp .GtE) (mapB (cmpD .GtE)) := by
  refine ⟨_, op_ge (X := X), fun H O v w d e z Q t rv rw hz q => ?_⟩
  obtain ⟨b, hb, rfl⟩ := mapB_some hz
  have hb : leD e d = some b := hb
  unfold leD at hb
  split at hb
  · cases hb; cases rv; cases rw; exact ⟨_, _, rfl, rfl, q _ H (Same.refl H) (.bl _)⟩
  · cases hb
theorem Rep.isNon {Z : Zx} {H : Hp} {O : List Addr} {v : V} {d : D} (r : Rep Z H O v d) : decide (v = .non) = d.isNon := by
  cases r <;> simp [D.isNon]
theorem op2_is : Op2 X L (compareOp .Is) (mapB (cmpD .Is)) := by
  refine ⟨_, (op_isN (X := X)).or op_is_bl, fun H O v w d e z Q t rv rw hz q => ?_⟩
  obtain ⟨b, hb, rfl⟩ := mapB_some hz
  have hb : isD d e = some b := hb
  unfold isD at hb
  split at hb
  · cases hb; cases rw; exact .inl ⟨rfl, by rw [rv.isNon]; exact q _ H (Same.refl H) (.bl _)⟩
  · cases hb; cases rv; cases rw; exact .inr ⟨_, _, rfl, rfl, q _ H (Same.refl H) (.bl _)⟩
  · cases hb
theorem op_isNot_bl : OpR X (compareOp .IsNot) (fun x y H Q => ∃ a b, x = .bl a ∧ y = .bl b ∧ Q (.bl (!decide (a = b))) H) := by
  intro pins s σ H x y v u Q I rx ry h
  obtain ⟨a, b, rfl, rfl, q⟩ := h
  cases rx
  cases ry
  have e : compareOp .IsNot (Value.bool a) (Value.bool b) = pure (.bool (!decide (a = b))) := by
    cases a <;> cases b <;> rfl
  rw [e]
  exact wpAny_pure ⟨.bl _, H, I, rfl, q⟩
theorem op2_isNot : Op2 X L (compareOp .IsNot) (mapB (cmpD .IsNot)) := by
  refine ⟨_, (op_notN (X := X)).or op_isNot_bl, fun H O v w d e z Q t rv rw hz q => ?_⟩
  obtain ⟨b, hb, rfl⟩ := mapB_some hz
  obtain ⟨c, hb2, rfl⟩ := Option.map_eq_some_iff.mp (show (isD d e).map (!·) = some b from hb)
  clear hb
  have hb : isD d e = some c := hb2
  unfold isD at hb
  split at hb
  · cases hb; cases rw; exact .inl ⟨rfl, by rw [rv.isNon]; exact q _ H (Same.refl H) (.bl _)⟩
  · cases hb; cases rv; cases rw; exact .inr ⟨_, _, rfl, rfl, q _ H (Same.refl H) (.bl _)⟩
  · cases hb
theorem op2_cmp (hu : X.A.units + 64 < cLine) (op : CmpOp) : Op2 X L (compareOp op) (mapB (cmpD op)) := by
  cases op with
  | Eq => exact op2_eq hu
  | NotEq => exact op2_ne hu
  | Lt => exact op2_lt
  | LtE => exact op2_le
  | Gt => exact op2_gt
  | GtE => exact op2_ge
  | Is => exact op2_is
  | IsNot => exact op2_isNot
  | In => exact op2_in hu
  | NotIn => exact op2_notIn hu
end
end Ev
set_option Elab.async false
set_option maxRecDepth 100000
set_option maxHeartbeats 4000000
/-! EvC: verified terms: what a piece of text tells (den), the check of the text (chk), that both agree (ok). -/
namespace Ev
open PySem PySem.Spec PyProof.Rows L2

def Out.lift {α : Type} (o : Option α) (ρ : En) : Out α := match o with
  | some a => .ok a ρ
  | none => .no

/-! ### contexts -/
structure Ck where
  N : List Str
  ns : List (Str × NameKind)
  io : List Nat
  q : Str
  nm : Option (Nat → Nat → Str)
def Ck.vis (k : Ck) (i : Nat) (x : Str) : Bool := decide (k.N[i]? = some x) && (match k.ns.lookup x with | some .local => true | some .cell => true | some .free => true | _ => false) && !(x == ("__debug__" : Str)) && !(x == ("__classdict__" : Str))
def Ck.gl (k : Ck) (x : Str) : Bool := (match k.ns.lookup x with | some .globalImplicit => true | _ => false) && !(x == ("__debug__" : Str)) && !decide (x = "__name__")
def Ck.loc (k : Ck) (i : Nat) (x : Str) : Bool := decide (k.N[i]? = some x) && (match k.ns.lookup x with | some .local => true | some .cell => true | _ => false)
/-- the built-in names that are used -/
def blts : List Str := ["len", "all", "any", "isinstance", "range", "enumerate", "zip", "list", "tuple", "int", "abs", "max", "min", "divmod", "repr", "sorted", "sum", "dict", "set", "str", "bool", "super"]
structure Cxt (X : Cx) (L : Lx) (A : An) (W : WX) (lev : Nat) (k : Ck) : Prop where
  N : X.N = k.N
  nd : k.N.Nodup
  calm : X.calm = true
  sc : ∀ x c, k.ns.lookup x = some c → X.env.scope.names.lookup x = some c ∨ (c = .free ∧ X.env.scope.names.lookup x = some .cell)
  fn : ∀ x, (k.ns.lookup x = some .local ∨ k.ns.lookup x = some .cell) → X.fn x = true ∨ X.env.scope.names.lookup x = some .local
  tk : Takes X W
  room : Room lev X.A
  blt : ∀ x ∈ blts, X.mg x = none
  gd : X.A.guards = some []
  po : PassesOwn (model X.prog X.w) X.A X.env X.xe
  qual : X.env.qual = k.q
  tab : ∀ nm, k.nm = some nm → ∃ c P, X.env.code = .ref c ∧ LamX.TabB X.base X.mg c P ∧ (P, nm) ∈ L.T ∧ ∀ p ∈ L.T, p.1 = P → p.2 = nm
/-- a def keeps its promise, where no object is being shown -/
structure FnG (P : Program) (w : World) (K : PySem.W.Frag) (mg : Str → Option Value) (base : Heap) (lev : Nat) (f : Addr) (fd : FuncData) (ps : List Str) (sp : Sp) : Prop where
  len : ∀ vs H Q E, sp vs H Q E → vs.length = ps.length
  run : ∀ (A : Around), A.guards = some [] → Room lev A → ∀ (outer : List PySem.Env) (s : Shared) (H : Hp) (args : Args) (us : List Value) (vs : List V) (Q : VK) (E : XK), Env0 P w K mg base A outer s H →
    BindsTo s fd args (ps.zip us) → Vals vs us → sp vs H Q E → codeAny (model P w) A (.call (.ref f) args) (CR (CX P w) outer P w H s Q E) s
theorem FnG.mono {P : Program} {w : World} {K : PySem.W.Frag} {mg : Str → Option Value} {base : Heap} {j k : Nat} {f : Addr} {fd : FuncData} {ps : List Str} {sp : Sp} (F : FnG P w K mg base j f fd ps sp) (h : j ≤ k) : FnG P w K mg base k f fd ps sp :=
  ⟨F.len, fun A hg hr => F.run A hg (hr.mono h)⟩
/-- a def as a function on values: its outcome; which parameters it may change; whether what it returns is a new list -/
structure FSem where
  den : List D → FO
  io : List Nat
  fresh : Bool
  ar : Nat
/-- all but the lists at as stays -/
structure Ext0 (H : Hp) (as : List Addr) (H' : Hp) : Prop where
  st : ∀ b u, H b = some u → b ∉ as → (∀ ps, u ≠ .tbl ps) → H' b = some u
  dom : ∀ b, H b ≠ none → H' b ≠ none
structure ArgsR (Z : Zx) (H : Hp) (O : List Addr) (io : List Nat) (as : List Addr) (vs : List V) (ds : List D) : Prop where
  len : vs.length = ds.length
  las : as.length = io.length
  nd : as.Nodup
  val : ∀ (i : Nat) (v : V) (d : D), vs[i]? = some v → ds[i]? = some d → i ∉ io → Rep Z H O v d
  own : ∀ (j i : Nat) (a : Addr), io[j]? = some i → as[j]? = some a → ∃ d, ds[i]? = some d ∧ vs[i]? = some (.ref a) ∧ OwnAt Z H O a d
def OutsR (Z : Zx) (H : Hp) (O : List Addr) (as : List Addr) (os : List D) : Prop := as.length = os.length ∧ ∀ (j : Nat) (a : Addr), as[j]? = some a → ∃ d, os[j]? = some d ∧ OwnAt Z H O a d
/-- the promise of a def -/
def spOf (Z : Zx) (F : FSem) : Sp := fun vs H Q E => ∃ O as ds, (∀ b ∈ O, Trk H b) ∧ NdefX.TabsN Z.T H ∧ ArgsR Z H O F.io as vs ds ∧ ds.length = F.ar ∧ match F.den ds with
  | .no => False
  | .ok d os => (F.fresh = true → ∃ es, d = .lst es ∧ ∀ p xs H', Ext0 H as H' → NdefX.TabsN Z.T H' → H p = none → H' p = some (.lst xs) → Reps Z H' (p :: O) xs es → OutsR Z H' (p :: O) as os → Q (.ref p) H') ∧
      (F.fresh = false → ∀ v H', Ext0 H as H' → NdefX.TabsN Z.T H' → OutsR Z H' O as os → Rep Z H' O v d → Q v H')
  | .er x os => ∀ cls dd H', Ext0 H as H' → NdefX.TabsN Z.T H' → OutsR Z H' O as os → RepX Z H' O cls dd x → E cls dd H'
/-- the module's name x holds a def that keeps the promise of F -/
def FnK (X : Cx) (L : Lx) (lev : Nat) (x : Str) (F : FSem) : Prop :=
  ∃ (f : Addr) (fd : FuncData) (ps : List Str), X.mg x = some (.ref f) ∧ PySem.W.keepIn X.K (.ref f) = true ∧ ps.length = F.ar ∧ Binds X.K fd ps [] ∧ FnG X.prog X.w X.K X.mg X.base lev f fd ps (spOf (zx X L) F)
/-- the module's name x holds the constant d -/
def GlobOk (Z : Zx) (x : Str) (d : D) : Prop := ∃ u v, Z.mg x = some u ∧ RelV v u ∧ (∀ H O, Rep Z H O v d) ∧ ∀ p o, v = .ref p → Z.K.lookup p = some o → o.dict = none
/-- .. and may be called with all its parameters by name: the names as they stand there, the place of each parameter among them -/
def FnKK (X : Cx) (L : Lx) (lev : Nat) (x : Str) (F : FSem) (ks : List Str) (pm : List Nat) : Prop :=
  ∃ (f : Addr) (fd : FuncData) (ps : List Str), X.mg x = some (.ref f) ∧ PySem.W.keepIn X.K (.ref f) = true ∧ ps.length = F.ar ∧ (∀ (s : Shared) (ws : List Value), X.K.In s.heap → ws.length = ks.length → BindsTo s fd ⟨[], ks.zip ws⟩ (ps.zip (pm.map fun i => ws.getD i .none))) ∧
    FnG X.prog X.w X.K X.mg X.base lev f fd ps (spOf (zx X L) F)
/-- the k-th made function keeps the promise of F -/
def CloK (X : Cx) (L : Lx) (lev : Nat) (k : Nat) (F : FSem) : Prop :=
  ∀ I : LamI, L.lam k I = true → I.fr = [] → ∀ (A : Around), A.guards = some [] → Room lev A → ∀ (outer : List PySem.Env) (s : Shared) (H : Hp) (f c : Addr) (us : List Value) (vs : List V) (Q : VK) (E : XK), Env0 X.prog X.w X.K X.mg X.base A outer s H →
    H f = some (FnObj I [] c f) → H c = some (LamX.CodeO c I.qual) → Vals vs us → spOf (zx X L) F vs H Q E → codeAny (model X.prog X.w) A (.call (.ref f) ⟨us, []⟩) (CR (CX X.prog X.w) outer X.prog X.w H s Q E) s
structure Need where
  fs : List (Str × FSem)
  gs : List (Str × D)
  kw : List (Str × FSem × List Str × List Nat)
  cl : List (Nat × FSem)
  lm : List (Nat × (LamI → Bool))
def Need.nil : Need := ⟨[], [], [], [], []⟩
def Need.fn (x : Str) (F : FSem) : Need := ⟨[(x, F)], [], [], [], []⟩
def Need.gl (x : Str) (d : D) : Need := ⟨[], [(x, d)], [], [], []⟩
def Need.app (a b : Need) : Need := ⟨a.fs ++ b.fs, a.gs ++ b.gs, a.kw ++ b.kw, a.cl ++ b.cl, a.lm ++ b.lm⟩
structure Has (X : Cx) (L : Lx) (lev : Nat) (n : Need) : Prop where
  fs : ∀ p ∈ n.fs, FnK X L lev p.1 p.2
  gs : ∀ p ∈ n.gs, GlobOk (zx X L) p.1 p.2
  kw : ∀ p ∈ n.kw, FnKK X L lev p.1 p.2.1 p.2.2.1 p.2.2.2
  cl : ∀ p ∈ n.cl, CloK X L lev p.1 p.2
  lm : ∀ p ∈ n.lm, L.lam p.1 = p.2
theorem Has.left {X : Cx} {L : Lx} {lev : Nat} {a b : Need} (h : Has X L lev (a.app b)) : Has X L lev a := ⟨fun p hp => h.fs p (List.mem_append_left _ hp), fun p hp => h.gs p (List.mem_append_left _ hp), fun p hp => h.kw p (List.mem_append_left _ hp), fun p hp => h.cl p (List.mem_append_left _ hp), fun p hp => h.lm p (List.mem_append_left _ hp)⟩
theorem Has.right {X : Cx} {L : Lx} {lev : Nat} {a b : Need} (h : Has X L lev (a.app b)) : Has X L lev b := ⟨fun p hp => h.fs p (List.mem_append_right _ hp), fun p hp => h.gs p (List.mem_append_right _ hp), fun p hp => h.kw p (List.mem_append_right _ hp), fun p hp => h.cl p (List.mem_append_right _ hp), fun p hp => h.lm p (List.mem_append_right _ hp)⟩

/-! ### terms -/
/-- an expression -/
structure Ex where
  den : En → Out D
  tst : En → Out Bool
  chk : Ck → Expr → Bool
  need : Need
  ok : ∀ {X : Cx} {L : Lx} {A : An} {W : WX} {lev : Nat} {k : Ck}, Cxt X L A W lev k → Has X L lev need → ∀ x, chk k x = true → PE X x (tS (zx X L) A W den)
  okT : ∀ {X : Cx} {L : Lx} {A : An} {W : WX} {lev : Nat} {k : Ck}, Cxt X L A W lev k → Has X L lev need → ∀ x, chk k x = true → PT X x (tT (zx X L) A W tst)
/-- a row of expressions -/
structure As where
  den : En → Out (List D)
  chk : Ck → List Expr → Bool
  need : Need
  ok : ∀ {X : Cx} {L : Lx} {A : An} {W : WX} {lev : Nat} {k : Ck}, Cxt X L A W lev k → Has X L lev need → ∀ xs, chk k xs = true → PA X xs (tA (zx X L) A W den)
def notStar : Expr → Bool
  | .Starred _ _ => false
  | _ => true
theorem starEach_cons {e : Expr} {es : List Expr} {env : PySem.Env} (h : notStar e = true) : starEach (e :: es) env = (false, eval e env) :: starEach es env := by
  cases e <;> first | rfl | cases h
def plainTest : Expr → Bool
  | .UnaryOp .Not _ _ => false
  | .BoolOp _ _ _ => false
  | .IfExp _ _ _ _ => false
  | .Compare _ _ _ _ => false
  | _ => true
theorem isTrue_plainE {e : Expr} {env : PySem.Env} (h : plainTest e = true) (whole : Sem Value) : isTrue e env whole = (do let v ← whole; standAt e.pos; holding [v] (truthy v)) := by
  cases e with
  | UnaryOp op x pos => cases op <;> first | rfl | cases h
  | BoolOp _ _ _ => cases h
  | IfExp _ _ _ _ => cases h
  | Compare _ _ _ _ => cases h
  | _ => rfl
section
variable {X : Cx} {L : Lx} {A : An} {W : WX} {lev : Nat} {k : Ck}
theorem Cxt.units (c : Cxt X L A W lev k) : X.A.units + 64 < cLine := c.room.units
theorem Cxt.visOk (c : Cxt X L A W lev k) {i : Nat} {x : Str} (h : k.vis i x = true) : X.N[i]? = some x ∧ Vis X.env.scope x ∧ (x == ("__debug__" : Str)) = false ∧ (x == ("__classdict__" : Str)) = false := by
  unfold Ck.vis at h
  simp only [Bool.and_eq_true, decide_eq_true_eq, Bool.not_eq_true'] at h
  obtain ⟨⟨⟨h1, h2⟩, h3⟩, h4⟩ := h
  refine ⟨by rw [c.N]; exact h1, ?_, h3, h4⟩
  split at h2
  · rename_i e
    rcases c.sc x _ e with q | ⟨q, _⟩
    · exact .inl q
    · cases q
  · rename_i e
    rcases c.sc x _ e with q | ⟨q, _⟩
    · exact .inr (.inl q)
    · cases q
  · rename_i e
    rcases c.sc x _ e with q | ⟨_, q⟩
    · exact .inr (.inr q)
    · exact .inr (.inl q)
  · cases h2
theorem Cxt.glOk (c : Cxt X L A W lev k) {x : Str} (h : k.gl x = true) : Gl X x ∧ (x == ("__debug__" : Str)) = false ∧ x ≠ "__name__" := by
  unfold Ck.gl at h
  simp only [Bool.and_eq_true, Bool.not_eq_true', decide_eq_false_iff_not] at h
  obtain ⟨⟨h2, h3⟩, h4⟩ := h
  refine ⟨?_, h3, h4⟩
  split at h2
  · rename_i e
    rcases c.sc x _ e with q | ⟨q, _⟩
    · exact q
    · cases q
  · cases h2
theorem Cxt.locOk (c : Cxt X L A W lev k) {i : Nat} {x : Str} (h : k.loc i x = true) : X.N[i]? = some x ∧ Loc X.env.scope x ∧ (X.fn x = true ∨ X.env.scope.names.lookup x = some .local) := by
  unfold Ck.loc at h
  simp only [Bool.and_eq_true, decide_eq_true_eq] at h
  obtain ⟨h1, h2⟩ := h
  refine ⟨by rw [c.N]; exact h1, ?_⟩
  split at h2
  · rename_i e
    refine ⟨?_, c.fn x (.inl e)⟩
    rcases c.sc x _ e with q | ⟨q, _⟩
    · exact .inl q
    · cases q
  · rename_i e
    refine ⟨?_, c.fn x (.inr e)⟩
    rcases c.sc x _ e with q | ⟨q, _⟩
    · exact .inr q
    · cases q
  · cases h2
end

/-! ### how readings are put together -/
section
variable {Z : Zx} {A : An} {W : WX} {H : Hp} {O : List Addr} {σ : L2.St} {ρ : En}
abbrev KS (Z : Zx) (A : An) (H : Hp) (O : List Addr) (σ : L2.St) (Q : VK) : D → En → Prop := fun d ρ' => ∀ v H' O', Ext H O H' O' → SR Z A H' O' σ ρ' → Rep Z H' O' v d → Q v H'
/-- first a, then what follows -/
theorem tS_bind {fa : En → Out D} {α : Type} {kf : D → En → Out α} {Qo : α → En → Prop} {Q : VK} (s : SR Z A H O σ ρ)
    (h : ((fa ρ).bind kf).Post Qo (ErP Z A W H O))
    (q : ∀ d ρ1 v H1 O1, Ext H O H1 O1 → SR Z A H1 O1 σ ρ1 → Rep Z H1 O1 v d → (kf d ρ1).Post Qo (ErP Z A W H1 O1) → Q v H1) : tS Z A W fa σ H Q := by
  refine ⟨ρ, O, s, (Out.post_bind h).mono (fun d ρ1 hk v H1 O1 e1 s1 r1 => q d ρ1 v H1 O1 e1 s1 r1 ?_) fun x ρ1 hx => hx⟩
  exact hk.mono (fun _ _ z => z) fun x ρ1 z => z.ext e1
theorem tT_bind {fa : En → Out Bool} {α : Type} {kf : Bool → En → Out α} {Qo : α → En → Prop} {Q : Bool → Hp → Prop} (s : SR Z A H O σ ρ)
    (h : ((fa ρ).bind kf).Post Qo (ErP Z A W H O))
    (q : ∀ b ρ1 H1 O1, Ext H O H1 O1 → SR Z A H1 O1 σ ρ1 → (kf b ρ1).Post Qo (ErP Z A W H1 O1) → Q b H1) : tT Z A W fa σ H Q := by
  refine ⟨ρ, O, s, (Out.post_bind h).mono (fun d ρ1 hk H1 O1 e1 s1 => q d ρ1 H1 O1 e1 s1 ?_) fun x ρ1 hx => hx⟩
  exact hk.mono (fun _ _ z => z) fun x ρ1 z => z.ext e1
theorem tA_bind {fa : En → Out (List D)} {α : Type} {kf : List D → En → Out α} {Qo : α → En → Prop} {Q : List V → Hp → Prop} (s : SR Z A H O σ ρ)
    (h : ((fa ρ).bind kf).Post Qo (ErP Z A W H O))
    (q : ∀ ds ρ1 vs H1 O1, Ext H O H1 O1 → SR Z A H1 O1 σ ρ1 → Reps Z H1 O1 vs ds → (kf ds ρ1).Post Qo (ErP Z A W H1 O1) → Q vs H1) : tA Z A W fa σ H Q := by
  refine ⟨ρ, O, s, (Out.post_bind h).mono (fun d ρ1 hk vs H1 O1 e1 s1 r1 => q d ρ1 vs H1 O1 e1 s1 r1 ?_) fun x ρ1 hx => hx⟩
  exact hk.mono (fun _ _ z => z) fun x ρ1 z => z.ext e1
theorem KS.ext {H1 : Hp} {O1 : List Addr} {Q : VK} {d : D} {ρ' : En} (e : Ext H O H1 O1) (h : KS Z A H O σ Q d ρ') : KS Z A H1 O1 σ Q d ρ' := fun v H' O' e' => h v H' O' (e.trans e')
theorem post_lift {α : Type} {o : Option α} {Q : α → En → Prop} {R : Xn → En → Prop} (h : (Out.lift o ρ).Post Q R) : ∃ a, o = some a ∧ Q a ρ := by
  cases o with
  | none => exact h.elim
  | some a => exact ⟨a, rfl, h⟩
end

/-! ### the truth of a value -/
def tstOf (f : En → Out D) : En → Out Bool := fun ρ => (f ρ).bind fun d ρ1 => Out.lift d.truth ρ1
section
variable {X : Cx} {L : Lx} {A : An} {W : WX} {lev : Nat} {k : Ck}
theorem Rep.truV {H : Hp} {O : List Addr} {v : V} {d : D} {b : Bool} (r : Rep (zx X L) H O v d) (h : d.truth = some b) : TruV X.K v H b := by
  cases r with
  | non => cases h; rfl
  | bl c => cases h; rfl
  | int i => cases h; rfl
  | str s hs =>
    have h : (if s.length ≤ sizeLine then some ((s.length : Int) != 0) else none) = some b := h
    split at h
    · rename_i hz
      cases h
      exact ⟨hz, rfl⟩
    · cases h
  | tup h1 r1 =>
    cases h
    refine .inr (.inl ⟨_, .inl (.inl h1.1), ?_⟩)
    cases r1 <;> rfl
  | tupK h1 r1 =>
    cases h
    refine .inr (.inl ⟨_, SqT.ofK h1 H, ?_⟩)
    cases r1 <;> rfl
  | lst h1 r1 =>
    cases h
    refine .inl ⟨_, .inl (.inl h1.1), ?_⟩
    cases r1 <;> rfl
  | dic0 h1 => cases h; exact .inr (.inr ⟨_, h1.1, rfl⟩)
  | dicN _ _ => cases h
  | scr _ => cases h
  | scrK _ => cases h
  | clo _ _ _ _ _ => cases h
theorem truth_of {e : Expr} {f : En → Out D} (h : PE X e (tS (zx X L) A W f)) (hp : plainTest e = true) : PT X e (tT (zx X L) A W (tstOf f)) := by
  refine PT.weak (pt_truth h (isTrue_plainE hp)) fun σ H Q q => ?_
  obtain ⟨ρ, O, s, q⟩ := q
  refine tS_bind s q fun d ρ1 v H1 O1 e1 s1 r1 hk => ?_
  obtain ⟨b, hb, hq⟩ := post_lift hk
  exact ⟨b, r1.truV hb, hq H1 O1 e1 s1⟩
end
/-- an expression whose test is its value's truth -/
def Ex.plain (den : En → Out D) (chk : Ck → Expr → Bool) (need : Need)
    (ok : ∀ {X : Cx} {L : Lx} {A : An} {W : WX} {lev : Nat} {k : Ck}, Cxt X L A W lev k → Has X L lev need → ∀ x, chk k x = true → PE X x (tS (zx X L) A W den))
    (pl : ∀ k x, chk k x = true → plainTest x = true) : Ex := ⟨den, tstOf den, chk, need, ok, fun c n x h => truth_of (ok c n x h) (pl _ x h)⟩
end Ev
set_option Elab.async false
set_option maxRecDepth 100000
set_option maxHeartbeats 4000000
/-! EvD: names, constants, displays, operators, comparisons, and, or, not. -/
namespace Ev
open PySem PySem.Spec PyProof.Rows L2

/-! ### names and constants -/
def dVar (i : Nat) : En → Out D := fun ρ => match ρ[i]? with
  | some (.v d) => .ok d ρ
  | _ => .no
def Ex.var (i : Nat) : Ex := .plain (dVar i) (fun k x => match x with | .Name x _ => k.vis i x | _ => false) .nil (fun {X L A W lev k} c n x h => by
  cases x with
  | Name x pos =>
    obtain ⟨h1, h2, h3, h4⟩ := c.visOk h
    refine PE.weak (pe_var h1 h2 h3 h4) fun σ H Q q => ?_
    obtain ⟨ρ, O, s, q⟩ := q
    unfold dVar at q
    split at q
    · rename_i d e
      obtain ⟨v, hv, r⟩ := s.val i d e
      exact ⟨v, hv, q v H O (Ext.refl H O) s r⟩
    · exact q.elim
  | _ => cases h) (fun k x h => by cases x <;> first | rfl | cases h)
/-- a constant -/
def dCon (d : D) : En → Out D := fun ρ => .ok d ρ
theorem s_con {X : Cx} {L : Lx} {A : An} {W : WX} {e : Expr} {v : V} {d : D} (h : PE X e (tC v)) (r : ∀ H O, Rep (zx X L) H O v d) : PE X e (tS (zx X L) A W (dCon d)) :=
  PE.weak h fun σ H Q ⟨ρ, O, s, q⟩ => q v H O (Ext.refl H O) s (r H O)
def Ex.int (i : Int) : Ex := .plain (dCon (.int i)) (fun k x => match x with | .Constant (.int j) _ _ => decide (i = j) | _ => false) .nil (fun {X L A W lev k} c n x h => by
  split at h
  · have e := of_decide_eq_true h
    subst e
    exact s_con pe_int fun H O => .int _
  · cases h) (fun k x h => by split at h <;> first | rfl | cases h)
def Ex.str (s : Str) : Ex := .plain (dCon (.str s)) (fun k x => match x with | .Constant (.str j) _ _ => decide (s = j) && PyData.strOk s | _ => false) .nil (fun {X L A W lev k} c n x h => by
  split at h
  · rw [Bool.and_eq_true] at h
    have e := of_decide_eq_true h.1
    subst e
    exact s_con pe_str fun H O => .str _ h.2
  · cases h) (fun k x h => by split at h <;> first | rfl | cases h)
def Ex.bl (b : Bool) : Ex := .plain (dCon (.bl b)) (fun k x => match x with | .Constant (.bool j) _ _ => decide (b = j) | _ => false) .nil (fun {X L A W lev k} c n x h => by
  split at h
  · have e := of_decide_eq_true h
    subst e
    exact s_con pe_bl fun H O => .bl _
  · cases h) (fun k x h => by split at h <;> first | rfl | cases h)
def Ex.non : Ex := .plain (dCon .non) (fun k x => match x with | .Constant .none _ _ => true | _ => false) .nil (fun {X L A W lev k} c n x h => by
  split at h
  · exact s_con pe_non fun H O => .non
  · cases h) (fun k x h => by split at h <;> first | rfl | cases h)
/-- a constant of the module -/
def Ex.glo (y : Str) (d : D) : Ex := .plain (dCon d) (fun k x => match x with | .Name x _ => decide (x = y) && k.gl x | _ => false) (.gl y d) (fun {X L A W lev k} c n x h => by
  cases x with
  | Name x pos =>
    have h : (decide (x = y) && k.gl x) = true := h
    rw [Bool.and_eq_true, decide_eq_true_eq] at h
    obtain ⟨rfl, hg⟩ := h
    obtain ⟨h1, h2, h3⟩ := c.glOk hg
    obtain ⟨u, v, hu, r, hr, _⟩ := n.gs (x, d) (List.mem_singleton.mpr rfl)
    exact s_con (pe_glob h1 hu r h2) hr
  | _ => cases h) (fun k x h => by cases x <;> first | rfl | cases h)

/-! ### rows of expressions, displays -/
def As.nil : As where
  den := fun ρ => .ok [] ρ
  chk := fun _ xs => xs.isEmpty
  need := .nil
  ok := fun {X L A W lev k} c n xs h => by
    cases xs with
    | nil => exact PA.weak pa_nil fun σ H Q ⟨ρ, O, s, q⟩ => q [] H O (Ext.refl H O) s .nil
    | cons _ _ => cases h
def As.cons (e : Ex) (r : As) : As where
  den := fun ρ => (e.den ρ).bind fun d ρ1 => (r.den ρ1).bind fun ds ρ2 => .ok (d :: ds) ρ2
  chk := fun k xs => match xs with | x :: xs => notStar x && e.chk k x && r.chk k xs | [] => false
  need := e.need.app r.need
  ok := fun {X L A W lev k} c n xs h => by
    cases xs with
    | nil => cases h
    | cons x xs =>
      have h : (notStar x && e.chk k x && r.chk k xs) = true := h
      simp only [Bool.and_eq_true] at h
      refine PA.weak (pa_cons (e.ok c n.left x h.1.2) (r.ok c n.right xs h.2) (starEach_cons h.1.1)) fun σ H Q q => ?_
      obtain ⟨ρ, O, s, q⟩ := q
      refine tS_bind s q fun d ρ1 v H1 O1 e1 s1 r1 hk => ?_
      refine tA_bind s1 hk fun ds ρ2 vs H2 O2 e2 s2 r2 hk2 => ?_
      exact hk2 (v :: vs) H2 O2 (e1.trans e2) s2 (.cons (r1.ext e2) r2)
/-- (a, b, ..) -/
def Ex.tup (a : As) : Ex := .plain (fun ρ => (a.den ρ).bind fun ds ρ1 => Out.lift (if ds.length ≤ sizeLine then some (.tup ds) else none) ρ1) (fun k x => match x with | .Tuple es _ _ => a.chk k es | _ => false) a.need (fun {X L A W lev k} c n x h => by
  cases x with
  | Tuple es k pos =>
    refine PE.weak (pe_tup (a.ok c n es h)) fun σ H Q ⟨ρ, O, s, q⟩ => ?_
    refine tA_bind s q fun ds ρ1 vs H1 O1 e1 s1 r1 hk => ?_
    obtain ⟨d, hd, hk⟩ := post_lift hk
    split at hd
    · rename_i hz
      cases hd
      exact ⟨by rw [r1.length]; exact hz, fun p hp => hk _ _ O1 (e1.trans (Ext.upd hp)) (s1.same (same_new hp)) (Rep.newT s1.trk hp r1)⟩
    · cases hd
  | _ => cases h) (fun k x h => by cases x <;> first | rfl | cases h)
/-- [a, b, ..] -/
def Ex.lst (a : As) : Ex := .plain (fun ρ => (a.den ρ).bind fun ds ρ1 => Out.lift (if ds.length ≤ sizeLine then some (.lst ds) else none) ρ1) (fun k x => match x with | .List es _ => a.chk k es | _ => false) a.need (fun {X L A W lev k} c n x h => by
  cases x with
  | List es pos =>
    refine PE.weak (pe_lst (a.ok c n es h)) fun σ H Q ⟨ρ, O, s, q⟩ => ?_
    refine tA_bind s q fun ds ρ1 vs H1 O1 e1 s1 r1 hk => ?_
    obtain ⟨d, hd, hk⟩ := post_lift hk
    split at hd
    · rename_i hz
      cases hd
      exact ⟨by rw [r1.length]; exact hz, fun p hp => hk _ _ O1 (e1.trans (Ext.upd hp)) (s1.same (same_new hp)) (Rep.newL s1.trk hp r1)⟩
    · cases hd
  | _ => cases h) (fun k x h => by cases x <;> first | rfl | cases h)

/-! ### operators -/
def dOp2 (g : D → D → Option D) (a b : Ex) : En → Out D := fun ρ => (a.den ρ).bind fun x ρ1 => (b.den ρ1).bind fun y ρ2 => Out.lift (g x y) ρ2
section
variable {X : Cx} {L : Lx} {A : An} {W : WX}
/-- the reading of a two-place operation -/
theorem s_op2 {g : D → D → Option D} {a b : Ex} {r : R2} {σ : L2.St} {H : Hp} {Q : VK}
    (hr : ∀ (H : Hp) (O : List Addr) (v w : V) (d e z : D) (Q : VK), (∀ b ∈ O, Trk H b) → Rep (zx X L) H O v d → Rep (zx X L) H O w e → g d e = some z → (∀ u H', Same H H' → Rep (zx X L) H' O u z → Q u H') → r v w H Q)
    (q : tS (zx X L) A W (dOp2 g a b) σ H Q) : tOp r (tS (zx X L) A W a.den) (tS (zx X L) A W b.den) σ H Q := by
  obtain ⟨ρ, O, s, q⟩ := q
  refine tS_bind s q fun d ρ1 v H1 O1 e1 s1 r1 hk => ?_
  refine tS_bind s1 hk fun e ρ2 w H2 O2 e2 s2 r2 hk2 => ?_
  obtain ⟨z, hz, hk2⟩ := post_lift hk2
  exact hr H2 O2 v w d e z Q s2.trk (r1.ext e2) r2 hz fun u H' sm ru => hk2 u H' O2 ((e1.trans e2).trans (Ext.same sm)) (s2.same sm) ru
end
def Ex.bin (op : Operator) (a b : Ex) : Ex := .plain (dOp2 (binD op) a b) (fun k x => match x with | .BinOp x o y _ => decide (o = op) && a.chk k x && b.chk k y | _ => false) (a.need.app b.need) (fun {X L A W lev k} c n x h => by
  cases x with
  | BinOp x o y pos =>
    have h : (decide (o = op) && a.chk k x && b.chk k y) = true := h
    simp only [Bool.and_eq_true, decide_eq_true_eq] at h
    obtain ⟨⟨rfl, h1⟩, h2⟩ := h
    obtain ⟨r, ho, hr⟩ := op2_bin (X := X) (L := L) o
    exact PE.weak (pe_op ho (a.ok c n.left x h1) (b.ok c n.right y h2)) fun σ H Q q => s_op2 hr q
  | _ => cases h) (fun k x h => by cases x <;> first | rfl | cases h)
/-- -a -/
def dNeg (a : Ex) : En → Out D := fun ρ => (a.den ρ).bind fun x ρ1 => Out.lift (match x with | .int i => some (.int (-i)) | _ => none) ρ1
def Ex.neg (a : Ex) : Ex := .plain (dNeg a) (fun k x => match x with | .UnaryOp .USub x _ => a.chk k x | _ => false) a.need (fun {X L A W lev k} c n x h => by
  split at h
  · refine PE.weak (pe_un un_neg (a.ok c n _ h)) fun σ H Q ⟨ρ, O, s, q⟩ => ?_
    refine tS_bind s q fun d ρ1 v H1 O1 e1 s1 r1 hk => ?_
    obtain ⟨z, hz, hk⟩ := post_lift hk
    split at hz
    · cases hz; cases r1
      exact ⟨_, rfl, hk _ H1 O1 e1 s1 (.int _)⟩
    · cases hz
  · cases h) (fun k x h => by split at h <;> first | rfl | cases h)

/-! ### comparisons -/
def bOp2 (g : D → D → Option Bool) (a b : Ex) : En → Out Bool := fun ρ => (a.den ρ).bind fun x ρ1 => (b.den ρ1).bind fun y ρ2 => Out.lift (g x y) ρ2
def notSet : Expr → Bool
  | .Set _ _ _ => false
  | _ => true
theorem behind_of {op : CmpOp} {e : Expr} (h : notSet e = true) : behindInMarks op e = false := by
  cases e <;> first | rfl | cases h
def Ex.cmp (op : CmpOp) (a b : Ex) : Ex where
  den := dOp2 (mapB (cmpD op)) a b
  tst := bOp2 (cmpD op) a b
  chk := fun k x => match x with | .Compare x [o] [y] _ => decide (o = op) && notSet y && a.chk k x && b.chk k y | _ => false
  need := a.need.app b.need
  ok := fun {X L A W lev k} c n x h => by
    split at h
    · simp only [Bool.and_eq_true, decide_eq_true_eq] at h
      obtain ⟨⟨⟨rfl, h0⟩, h1⟩, h2⟩ := h
      obtain ⟨r, ho, hr⟩ := op2_cmp (X := X) (L := L) c.units _
      exact PE.weak (pe_cmpR ho (a.ok c n.left _ h1) (b.ok c n.right _ h2) (behind_of h0)) fun σ H Q q => s_op2 hr q
    · cases h
  okT := fun {X L A W lev k} c n x h => by
    split at h
    · simp only [Bool.and_eq_true, decide_eq_true_eq] at h
      obtain ⟨⟨⟨rfl, h0⟩, h1⟩, h2⟩ := h
      obtain ⟨r, ho, hr⟩ := op2_cmp (X := X) (L := L) c.units _
      refine PT.weak (pt_cmpR ho (a.ok c n.left _ h1) (b.ok c n.right _ h2) (behind_of h0)) fun σ H Q ⟨ρ, O, s, q⟩ => ?_
      refine tS_bind s q fun d ρ1 v H1 O1 e1 s1 r1 hk => ?_
      refine tS_bind s1 hk fun e ρ2 w H2 O2 e2 s2 r2 hk2 => ?_
      obtain ⟨z, hz, hk2⟩ := post_lift hk2
      refine hr H2 O2 v w d e (.bl z) _ s2.trk (r1.ext e2) r2 (by unfold mapB; rw [hz]; rfl) fun u H' sm ru => ?_
      cases ru
      exact ⟨z, rfl, hk2 H' O2 ((e1.trans e2).trans (Ext.same sm)) (s2.same sm)⟩
    · cases h
/-- a op1 b op2 c -/
def dChn (g1 g2 : D → D → Option Bool) (a b c : Ex) : En → Out Bool := fun ρ => (a.den ρ).bind fun x ρ1 => (b.den ρ1).bind fun y ρ2 => (Out.lift (g1 x y) ρ2).bind fun t ρ3 =>
  if t = true then (c.den ρ3).bind fun z ρ4 => Out.lift (g2 y z) ρ4 else .ok false ρ3
def toD (f : En → Out Bool) : En → Out D := fun ρ => (f ρ).bind fun b ρ1 => .ok (.bl b) ρ1
theorem lastMarks_of {op op' : CmpOp} {b c : Expr} (h : notSet c = true) : lastMarks [op, op'] [b, c] = false := by
  show behindInMarks op' c = false
  exact behind_of h
section
variable {X : Cx} {L : Lx} {A : An} {W : WX}
theorem s_chn {g1 g2 : D → D → Option Bool} {a b c : Ex} {r1 r2 : R2} {σ : L2.St} {H : Hp} {Q : VK}
    (hr1 : ∀ (H : Hp) (O : List Addr) (v w : V) (d e z : D) (Q : VK), (∀ b ∈ O, Trk H b) → Rep (zx X L) H O v d → Rep (zx X L) H O w e → mapB g1 d e = some z → (∀ u H', Same H H' → Rep (zx X L) H' O u z → Q u H') → r1 v w H Q)
    (hr2 : ∀ (H : Hp) (O : List Addr) (v w : V) (d e z : D) (Q : VK), (∀ b ∈ O, Trk H b) → Rep (zx X L) H O v d → Rep (zx X L) H O w e → mapB g2 d e = some z → (∀ u H', Same H H' → Rep (zx X L) H' O u z → Q u H') → r2 v w H Q)
    {ρ : En} {O : List Addr} (s : SR (zx X L) A H O σ ρ) {P : Bool → En → Prop} (q : (dChn g1 g2 a b c ρ).Post P (ErP (zx X L) A W H O))
    (hq : ∀ t ρ', P t ρ' → ∀ H' O', Ext H O H' O' → SR (zx X L) A H' O' σ ρ' → Q (.bl t) H') : tChain r1 r2 (tS (zx X L) A W a.den) (tS (zx X L) A W b.den) (tS (zx X L) A W c.den) σ H Q := by
  refine tS_bind s q fun d ρ1 v H1 O1 e1 s1 q1 hk => ?_
  refine tS_bind s1 hk fun e ρ2 w H2 O2 e2 s2 q2 hk2 => ?_
  obtain ⟨t, ht, hk2⟩ := post_lift (Out.post_bind hk2)
  refine hr1 H2 O2 v w d e (.bl t) _ s2.trk (q1.ext e2) q2 (by unfold mapB; rw [ht]; rfl) fun u H3 sm ru => ?_
  cases ru
  refine ⟨t, rfl, ?_⟩
  cases t with
  | false =>
    rw [if_neg Bool.false_ne_true]
    rw [if_neg Bool.false_ne_true] at hk2
    exact hq false ρ2 hk2 H3 O2 ((e1.trans e2).trans (Ext.same sm)) (s2.same sm)
  | true =>
    rw [if_pos rfl]
    rw [if_pos rfl] at hk2
    refine tS_bind (s2.same sm) (hk2.mono (fun _ _ z => z) fun x ρ z => z.ext (Ext.same sm)) fun z ρ4 y H4 O4 e4 s4 q4 hk4 => ?_
    obtain ⟨t2, ht2, hk4⟩ := post_lift hk4
    refine hr2 H4 O4 w y e z (.bl t2) _ s4.trk (q2.ext ((Ext.same sm).trans e4)) q4 (by unfold mapB; rw [ht2]; rfl) fun u H5 sm5 ru => ?_
    cases ru
    exact hq t2 _ hk4 H5 O4 ((((e1.trans e2).trans (Ext.same sm)).trans e4).trans (Ext.same sm5)) (s4.same sm5)
end
def Ex.chn (op1 op2 : CmpOp) (a b c : Ex) : Ex where
  den := toD (dChn (cmpD op1) (cmpD op2) a b c)
  tst := dChn (cmpD op1) (cmpD op2) a b c
  chk := fun k x => match x with | .Compare x [o1, o2] [y, z] _ => decide (o1 = op1) && decide (o2 = op2) && notSet z && a.chk k x && b.chk k y && c.chk k z | _ => false
  need := a.need.app (b.need.app c.need)
  ok := fun {X L A W lev k} t n x h => by
    split at h
    · simp only [Bool.and_eq_true, decide_eq_true_eq] at h
      obtain ⟨⟨⟨⟨⟨rfl, rfl⟩, h0⟩, h1⟩, h2⟩, h3⟩ := h
      obtain ⟨r, ho, hr⟩ := op2_cmp (X := X) (L := L) t.units _
      obtain ⟨r', ho', hr'⟩ := op2_cmp (X := X) (L := L) t.units _
      refine PE.weak (pe_chain ho ho' (a.ok t n.left _ h1) (b.ok t n.right.left _ h2) (c.ok t n.right.right _ h3) (lastMarks_of h0)) fun σ H Q ⟨ρ, O, s, q⟩ => ?_
      exact s_chn hr hr' s (Out.post_bind q) fun t ρ' hp H' O' e' s' => hp _ H' O' e' s' (.bl t)
    · cases h
  okT := fun {X L A W lev k} t n x h => by
    split at h
    · simp only [Bool.and_eq_true, decide_eq_true_eq] at h
      obtain ⟨⟨⟨⟨⟨rfl, rfl⟩, h0⟩, h1⟩, h2⟩, h3⟩ := h
      obtain ⟨r, ho, hr⟩ := op2_cmp (X := X) (L := L) t.units _
      obtain ⟨r', ho', hr'⟩ := op2_cmp (X := X) (L := L) t.units _
      refine PT.weak (pt_chain ho ho' (a.ok t n.left _ h1) (b.ok t n.right.left _ h2) (c.ok t n.right.right _ h3) (lastMarks_of h0)) fun σ H Q ⟨ρ, O, s, q⟩ => ?_
      exact s_chn hr hr' s q fun t ρ' hp H' O' e' s' => ⟨t, rfl, hp H' O' e' s'⟩
    · cases h
end Ev
set_option Elab.async false
set_option maxRecDepth 100000
set_option maxHeartbeats 4000000
/-! EvE: and, or, not, a if t else b; subscripts, slices. -/
namespace Ev
open PySem PySem.Spec PyProof.Rows L2

/-! ### and, or -/
/-- the parts of an and, of an or -/
structure Bs where
  dAnd : En → Out D
  dOr : En → Out D
  tAnd : En → Out Bool
  tOr : En → Out Bool
  chk : Ck → List Expr → Bool
  need : Need
  okA : ∀ {X : Cx} {L : Lx} {A : An} {W : WX} {lev : Nat} {k : Ck}, Cxt X L A W lev k → Has X L lev need → ∀ xs pos, chk k xs = true → PE X (.BoolOp .And xs pos) (tS (zx X L) A W dAnd)
  okO : ∀ {X : Cx} {L : Lx} {A : An} {W : WX} {lev : Nat} {k : Ck}, Cxt X L A W lev k → Has X L lev need → ∀ xs pos, chk k xs = true → PE X (.BoolOp .Or xs pos) (tS (zx X L) A W dOr)
  okTA : ∀ {X : Cx} {L : Lx} {A : An} {W : WX} {lev : Nat} {k : Ck}, Cxt X L A W lev k → Has X L lev need → ∀ xs pos, chk k xs = true → PW X (.BoolOp .And xs pos) (tT (zx X L) A W tAnd)
  okTO : ∀ {X : Cx} {L : Lx} {A : An} {W : WX} {lev : Nat} {k : Ck}, Cxt X L A W lev k → Has X L lev need → ∀ xs pos, chk k xs = true → PW X (.BoolOp .Or xs pos) (tT (zx X L) A W tOr)
  ne : ∀ k xs, chk k xs = true → ∃ y ys, xs = y :: ys
theorem PW.weak {X : Cx} {e : Expr} {t t' : TT} (h : PW X e t) (w : ∀ σ H Q, t' σ H Q → t σ H Q) : PW X e t' := ⟨fun wh pins s σ H Q I q => h.run wh pins s σ H Q I (w σ H Q q)⟩
def Bs.one (e : Ex) : Bs where
  dAnd := e.den
  dOr := e.den
  tAnd := e.tst
  tOr := e.tst
  chk := fun k xs => match xs with | [x] => e.chk k x | _ => false
  need := e.need
  okA := fun {X L A W lev k} c n xs pos h => by
    split at h
    · exact pe_one (e.ok c n _ h)
    · cases h
  okO := fun {X L A W lev k} c n xs pos h => by
    split at h
    · exact pe_one (e.ok c n _ h)
    · cases h
  okTA := fun {X L A W lev k} c n xs pos h => by
    split at h
    · exact pw_and1 (e.okT c n _ h)
    · cases h
  okTO := fun {X L A W lev k} c n xs pos h => by
    split at h
    · exact pw_or1 (e.okT c n _ h)
    · cases h
  ne := fun k xs h => by
    split at h
    · exact ⟨_, _, rfl⟩
    · cases h
section
variable {X : Cx} {L : Lx} {A : An} {W : WX}
theorem s_andT {fa fb : En → Out D} {σ : L2.St} {H : Hp} {Q : VK} (q : tS (zx X L) A W (fun ρ => (fa ρ).bind fun d ρ1 => (Out.lift d.truth ρ1).bind fun t ρ2 => if t = true then fb ρ2 else .ok d ρ2) σ H Q) :
    tAndT X.K (tS (zx X L) A W fa) (tS (zx X L) A W fb) σ H Q := by
  obtain ⟨ρ, O, s, q⟩ := q
  refine tS_bind s q fun d ρ1 v H1 O1 e1 s1 r1 hk => ?_
  obtain ⟨t, ht, hk⟩ := post_lift (Out.post_bind hk)
  refine ⟨t, r1.truV ht, ?_⟩
  cases t with
  | true =>
    rw [if_pos rfl] at hk ⊢
    exact ⟨ρ1, O1, s1, hk.mono (fun d ρ2 z => KS.ext e1 z) fun x ρ z => z⟩
  | false =>
    rw [if_neg Bool.false_ne_true] at hk ⊢
    exact hk v H1 O1 e1 s1 r1
theorem s_orT {fa fb : En → Out D} {σ : L2.St} {H : Hp} {Q : VK} (q : tS (zx X L) A W (fun ρ => (fa ρ).bind fun d ρ1 => (Out.lift d.truth ρ1).bind fun t ρ2 => if t = true then .ok d ρ2 else fb ρ2) σ H Q) :
    tOrT X.K (tS (zx X L) A W fa) (tS (zx X L) A W fb) σ H Q := by
  obtain ⟨ρ, O, s, q⟩ := q
  refine tS_bind s q fun d ρ1 v H1 O1 e1 s1 r1 hk => ?_
  obtain ⟨t, ht, hk⟩ := post_lift (Out.post_bind hk)
  refine ⟨t, r1.truV ht, ?_⟩
  cases t with
  | true =>
    rw [if_pos rfl] at hk ⊢
    exact hk v H1 O1 e1 s1 r1
  | false =>
    rw [if_neg Bool.false_ne_true] at hk ⊢
    exact ⟨ρ1, O1, s1, hk.mono (fun d ρ2 z => KS.ext e1 z) fun x ρ z => z⟩
theorem s_and {fa fb : En → Out Bool} {σ : L2.St} {H : Hp} {Q : Bool → Hp → Prop} (q : tT (zx X L) A W (fun ρ => (fa ρ).bind fun t ρ1 => if t = true then fb ρ1 else .ok false ρ1) σ H Q) :
    tAnd (tT (zx X L) A W fa) (tT (zx X L) A W fb) σ H Q := by
  obtain ⟨ρ, O, s, q⟩ := q
  refine tT_bind s q fun t ρ1 H1 O1 e1 s1 hk => ?_
  cases t with
  | true =>
    rw [if_pos rfl] at hk ⊢
    exact ⟨ρ1, O1, s1, hk.mono (fun d ρ2 z H' O' e' => z H' O' (e1.trans e')) fun x ρ z => z⟩
  | false =>
    rw [if_neg Bool.false_ne_true] at hk ⊢
    exact hk H1 O1 e1 s1
theorem s_or {fa fb : En → Out Bool} {σ : L2.St} {H : Hp} {Q : Bool → Hp → Prop} (q : tT (zx X L) A W (fun ρ => (fa ρ).bind fun t ρ1 => if t = true then .ok true ρ1 else fb ρ1) σ H Q) :
    tOr (tT (zx X L) A W fa) (tT (zx X L) A W fb) σ H Q := by
  obtain ⟨ρ, O, s, q⟩ := q
  refine tT_bind s q fun t ρ1 H1 O1 e1 s1 hk => ?_
  cases t with
  | true =>
    rw [if_pos rfl] at hk ⊢
    exact hk H1 O1 e1 s1
  | false =>
    rw [if_neg Bool.false_ne_true] at hk ⊢
    exact ⟨ρ1, O1, s1, hk.mono (fun d ρ2 z H' O' e' => z H' O' (e1.trans e')) fun x ρ z => z⟩
end
def Bs.cons (e : Ex) (r : Bs) : Bs where
  dAnd := fun ρ => (e.den ρ).bind fun d ρ1 => (Out.lift d.truth ρ1).bind fun t ρ2 => if t = true then r.dAnd ρ2 else .ok d ρ2
  dOr := fun ρ => (e.den ρ).bind fun d ρ1 => (Out.lift d.truth ρ1).bind fun t ρ2 => if t = true then .ok d ρ2 else r.dOr ρ2
  tAnd := fun ρ => (e.tst ρ).bind fun t ρ1 => if t = true then r.tAnd ρ1 else .ok false ρ1
  tOr := fun ρ => (e.tst ρ).bind fun t ρ1 => if t = true then .ok true ρ1 else r.tOr ρ1
  chk := fun k xs => match xs with | x :: xs => e.chk k x && r.chk k xs | [] => false
  need := e.need.app r.need
  okA := fun {X L A W lev k} c n xs pos h => by
    cases xs with
    | nil => cases h
    | cons x xs =>
      have h : (e.chk k x && r.chk k xs) = true := h
      rw [Bool.and_eq_true] at h
      have hb := r.okA c n.right xs pos h.2
      obtain ⟨y, ys, rfl⟩ := r.ne k xs h.2
      exact PE.weak (pe_andT (e.ok c n.left x h.1) hb) fun σ H Q q => s_andT q
  okO := fun {X L A W lev k} c n xs pos h => by
    cases xs with
    | nil => cases h
    | cons x xs =>
      have h : (e.chk k x && r.chk k xs) = true := h
      rw [Bool.and_eq_true] at h
      have hb := r.okO c n.right xs pos h.2
      obtain ⟨y, ys, rfl⟩ := r.ne k xs h.2
      exact PE.weak (pe_orT (e.ok c n.left x h.1) hb) fun σ H Q q => s_orT q
  okTA := fun {X L A W lev k} c n xs pos h => by
    cases xs with
    | nil => cases h
    | cons x xs =>
      have h : (e.chk k x && r.chk k xs) = true := h
      rw [Bool.and_eq_true] at h
      have hb := r.okTA c n.right xs pos h.2
      obtain ⟨y, ys, rfl⟩ := r.ne k xs h.2
      exact PW.weak (pw_and (e.okT c n.left x h.1) hb) fun σ H Q q => s_and q
  okTO := fun {X L A W lev k} c n xs pos h => by
    cases xs with
    | nil => cases h
    | cons x xs =>
      have h : (e.chk k x && r.chk k xs) = true := h
      rw [Bool.and_eq_true] at h
      have hb := r.okTO c n.right xs pos h.2
      obtain ⟨y, ys, rfl⟩ := r.ne k xs h.2
      exact PW.weak (pw_or (e.okT c n.left x h.1) hb) fun σ H Q q => s_or q
  ne := fun k xs h => by
    cases xs with
    | nil => cases h
    | cons x xs => exact ⟨x, xs, rfl⟩
def Ex.and (b : Bs) : Ex where
  den := b.dAnd
  tst := b.tAnd
  chk := fun k x => match x with | .BoolOp .And xs _ => b.chk k xs | _ => false
  need := b.need
  ok := fun {X L A W lev k} c n x h => by
    split at h
    · exact b.okA c n _ _ h
    · cases h
  okT := fun {X L A W lev k} c n x h => by
    split at h
    · exact (b.okTA c n _ _ h).pt
    · cases h
def Ex.or (b : Bs) : Ex where
  den := b.dOr
  tst := b.tOr
  chk := fun k x => match x with | .BoolOp .Or xs _ => b.chk k xs | _ => false
  need := b.need
  ok := fun {X L A W lev k} c n x h => by
    split at h
    · exact b.okO c n _ _ h
    · cases h
  okT := fun {X L A W lev k} c n x h => by
    split at h
    · exact (b.okTO c n _ _ h).pt
    · cases h
/-! ### not, if -/
def Ex.not (a : Ex) : Ex where
  den := fun ρ => (a.den ρ).bind fun d ρ1 => (Out.lift d.truth ρ1).bind fun t ρ2 => .ok (.bl (!t)) ρ2
  tst := fun ρ => (a.tst ρ).bind fun t ρ1 => .ok (!t) ρ1
  chk := fun k x => match x with | .UnaryOp .Not x _ => a.chk k x | _ => false
  need := a.need
  ok := fun {X L A W lev k} c n x h => by
    split at h
    · refine PE.weak (pe_notT (a.ok c n _ h)) fun σ H Q ⟨ρ, O, s, q⟩ => ?_
      refine tS_bind s q fun d ρ1 v H1 O1 e1 s1 r1 hk => ?_
      obtain ⟨t, ht, hk⟩ := post_lift (Out.post_bind hk)
      exact ⟨t, r1.truV ht, hk _ H1 O1 e1 s1 (.bl _)⟩
    · cases h
  okT := fun {X L A W lev k} c n x h => by
    split at h
    · refine PT.weak (pt_not (a.okT c n _ h)) fun σ H Q ⟨ρ, O, s, q⟩ => ?_
      exact tT_bind s q fun t ρ1 H1 O1 e1 s1 hk => hk H1 O1 e1 s1
    · cases h
def tIfT (t : TT) (ta tb : TT) : TT := fun σ H Q => t σ H fun c H1 => if c = true then ta σ H1 Q else tb σ H1 Q
theorem pt_ifExp {X : Cx} {a b c : Expr} {pos : Pos} {tc ta tb : TT} (hc : PT X c tc) (ha : PT X a ta) (hb : PT X b tb) : PT X (.IfExp c a b pos) (tIfT tc ta tb) := by
  refine ⟨fun pins s σ H Q I h => ?_⟩
  refine isTrue_IfExp (thn (hc.run pins s σ H _ I h) fun d s1 ⟨H1, I1, q1⟩ => ?_)
  cases d with
  | true => exact ha.run pins s1 σ H1 Q I1 q1
  | false => exact hb.run pins s1 σ H1 Q I1 q1
def Ex.ife (c a b : Ex) : Ex where
  den := fun ρ => (c.tst ρ).bind fun t ρ1 => if t = true then a.den ρ1 else b.den ρ1
  tst := fun ρ => (c.tst ρ).bind fun t ρ1 => if t = true then a.tst ρ1 else b.tst ρ1
  chk := fun k x => match x with | .IfExp x y z _ => c.chk k x && a.chk k y && b.chk k z | _ => false
  need := c.need.app (a.need.app b.need)
  ok := fun {X L A W lev k} t n x h => by
    cases x with
    | IfExp x y z pos =>
      have h : (c.chk k x && a.chk k y && b.chk k z) = true := h
      simp only [Bool.and_eq_true] at h
      refine PE.weak (pe_ifExp (c.okT t n.left x h.1.1) (a.ok t n.right.left y h.1.2) (b.ok t n.right.right z h.2)) fun σ H Q ⟨ρ, O, s, q⟩ => ?_
      refine tT_bind s q fun t ρ1 H1 O1 e1 s1 hk => ?_
      cases t with
      | true =>
        rw [if_pos rfl] at hk ⊢
        exact ⟨ρ1, O1, s1, hk.mono (fun d ρ2 z => KS.ext e1 z) fun x ρ z => z⟩
      | false =>
        rw [if_neg Bool.false_ne_true] at hk ⊢
        exact ⟨ρ1, O1, s1, hk.mono (fun d ρ2 z => KS.ext e1 z) fun x ρ z => z⟩
    | _ => cases h
  okT := fun {X L A W lev k} t n x h => by
    cases x with
    | IfExp x y z pos =>
      have h : (c.chk k x && a.chk k y && b.chk k z) = true := h
      simp only [Bool.and_eq_true] at h
      refine PT.weak (pt_ifExp (c.okT t n.left x h.1.1) (a.okT t n.right.left y h.1.2) (b.okT t n.right.right z h.2)) fun σ H Q ⟨ρ, O, s, q⟩ => ?_
      refine tT_bind s q fun t ρ1 H1 O1 e1 s1 hk => ?_
      cases t with
      | true =>
        rw [if_pos rfl] at hk ⊢
        exact ⟨ρ1, O1, s1, hk.mono (fun d ρ2 z H' O' e' => z H' O' (e1.trans e')) fun x ρ z => z⟩
      | false =>
        rw [if_neg Bool.false_ne_true] at hk ⊢
        exact ⟨ρ1, O1, s1, hk.mono (fun d ρ2 z H' O' e' => z H' O' (e1.trans e')) fun x ρ z => z⟩
    | _ => cases h

/-! ### subscripts -/
def idxD : D → D → Option D
  | .tup xs, .int i => atI xs i
  | .lst xs, .int i => atI xs i
  | .scr ns, .int i => (atI ns i).map .int
  | .str z, .int i => if z.length ≤ sizeLine then (atI z.cps.toList i).map fun c => .str ⟨#[c]⟩ else none
  | _, _ => none
def plainIx : Expr → Bool
  | .Slice _ _ _ _ => false
  | _ => true
theorem plainIx_of {e : Expr} (h : plainIx e = true) : PlainIx e := fun o i => by
  cases e <;> first | rfl | cases h
theorem atI_map {α β : Type} (f : α → β) (xs : List α) (i : Int) : atI (xs.map f) i = (atI xs i).map f := by
  unfold atI
  rw [List.length_map]
  cases ixN xs.length i with
  | none => rfl
  | some j => simp
theorem atI_reps {Z : Zx} {H : Hp} {O : List Addr} {vs : List V} {ds : List D} {i : Int} {d : D} (r : Reps Z H O vs ds) (h : atI ds i = some d) : ∃ v, atI vs i = some v ∧ Rep Z H O v d := by
  unfold atI at h ⊢
  rw [r.length]
  cases e : ixN ds.length i with
  | none => rw [e] at h; cases h
  | some j =>
    rw [e] at h
    exact r.getD h
theorem strOk_one {z : Str} (hz : PyData.strOk z = true) {i : Int} {c : Nat} (h : atI z.cps.toList i = some c) : PyData.strOk ⟨#[c]⟩ = true := by
  obtain ⟨j, _, hj, _⟩ := atI_get h
  have hm : c ∈ z.cps.toList := List.mem_of_getElem? hj
  unfold PyData.strOk at hz ⊢
  rw [← Array.all_toList, List.all_eq_true] at hz
  have := hz c hm
  simp [this] at *
theorem ix2 {X : Cx} {L : Lx} {H : Hp} {O : List Addr} {v w : V} {d e z : D} {Q : VK} (t : ∀ b ∈ O, Trk H b) (rv : Rep (zx X L) H O v d) (rw' : Rep (zx X L) H O w e) (hz : idxD d e = some z)
    (q : ∀ u H', Same H H' → Rep (zx X L) H' O u z → Q u H') : rIx X.K v w H Q := by
  cases e with
  | int i =>
    cases rw'
    cases d with
    | tup ds =>
      obtain ⟨p, xs, rfl, s1, r1⟩ := rv.tupSq
      obtain ⟨u, hu, ru⟩ := atI_reps r1 (show atI ds i = some z from hz)
      exact .inr (.inl ⟨p, xs, i, u, rfl, rfl, s1, hu, q u H (Same.refl H) ru⟩)
    | lst ds =>
      obtain ⟨p, xs, rfl, s1, n1, r1⟩ := rv.lstH
      obtain ⟨u, hu, ru⟩ := atI_reps r1 (show atI ds i = some z from hz)
      exact .inl ⟨p, xs, i, u, rfl, rfl, SqL.of s1, hu, q u H (Same.refl H) ru⟩
    | scr ns =>
      obtain ⟨p, rfl, s1⟩ := rv.scrSq
      obtain ⟨m, hm, rfl⟩ := Option.map_eq_some_iff.mp (show (atI ns i).map D.int = some z from hz)
      exact .inl ⟨p, _, i, .int m, rfl, rfl, s1, by rw [atI_map, hm]; rfl, q _ H (Same.refl H) (.int _)⟩
    | str y =>
      cases rv with
      | str _ hy =>
        have hz : (if y.length ≤ sizeLine then (atI y.cps.toList i).map fun c => D.str ⟨#[c]⟩ else none) = some z := hz
        split at hz
        · rename_i hl
          obtain ⟨c, hc, rfl⟩ := Option.map_eq_some_iff.mp hz
          exact .inr (.inr ⟨y, i, c, rfl, rfl, hl, hc, q _ H (Same.refl H) (.str _ (strOk_one hy hc))⟩)
        · cases hz
    | _ => cases hz
  | _ => cases d <;> cases hz
def Ex.idx (a i : Ex) : Ex := .plain (dOp2 idxD a i) (fun k x => match x with | .Subscript x y _ => plainIx y && a.chk k x && i.chk k y | _ => false) (a.need.app i.need) (fun {X L A W lev k} c n x h => by
  cases x with
  | Subscript x y pos =>
    have h : (plainIx y && a.chk k x && i.chk k y) = true := h
    simp only [Bool.and_eq_true] at h
    exact PE.weak (pe_ix ix_seq (a.ok c n.left x h.1.2) (i.ok c n.right y h.2) (plainIx_of h.1.1)) fun σ H Q q => s_op2 (fun H O v w d e z Q t rv rw' hz q => ix2 t rv rw' hz q) q
  | _ => cases h) (fun k x h => by cases x <;> first | rfl | cases h)

/-! ### slices -/
def cutL {α : Type} (xs : List α) (lo hi : Option Int) : List α := (xs.drop (HT.sIx xs.length 0 lo)).take (HT.sIx xs.length xs.length hi - HT.sIx xs.length 0 lo)
def sliD : D → Option Int → Option Int → Option D
  | .tup xs, lo, hi => some (.tup (cutL xs lo hi))
  | .lst xs, lo, hi => some (.lst (cutL xs lo hi))
  | .scr ns, lo, hi => some (.lst ((cutL ns lo hi).map .int))
  | .str z, lo, hi => if z.length ≤ sizeLine then some (.str (cutS z lo hi)) else none
  | _, _, _ => none
/-- an end of a slice: none, or an expression -/
structure Po where
  den : En → Out (Option Int)
  chk : Ck → Option Expr → Bool
  need : Need
  ok : ∀ {X : Cx} {L : Lx} {A : An} {W : WX} {lev : Nat} {k : Ck}, Cxt X L A W lev k → Has X L lev need → ∀ x, chk k x = true → PO X x fun σ H Q => ∃ ρ O, SR (zx X L) A H O σ ρ ∧ (den ρ).Post (fun o ρ' => ∀ H' O', Ext H O H' O' → SR (zx X L) A H' O' σ ρ' → Q o H') (ErP (zx X L) A W H O)
theorem PO.weak {X : Cx} {x : Option Expr} {t t' : TO} (h : PO X x t) (w : ∀ σ H Q, t' σ H Q → t σ H Q) : PO X x t' := ⟨fun pins s σ H Q I q => h.run pins s σ H Q I (w σ H Q q)⟩
def Po.none : Po where
  den := fun ρ => .ok Option.none ρ
  chk := fun _ x => x.isNone
  need := .nil
  ok := fun {X L A W lev k} c n x h => by
    cases x with
    | none => exact PO.weak po_none fun σ H Q ⟨ρ, O, s, q⟩ => q H O (Ext.refl H O) s
    | some _ => cases h
def Po.some (e : Ex) : Po where
  den := fun ρ => (e.den ρ).bind fun d ρ1 => match d with | .int i => .ok (Option.some i) ρ1 | _ => .no
  chk := fun k x => match x with | Option.some x => e.chk k x | _ => false
  need := e.need
  ok := fun {X L A W lev k} c n x h => by
    cases x with
    | none => cases h
    | some x =>
      refine PO.weak (po_some (e.ok c n x h)) fun σ H Q ⟨ρ, O, s, q⟩ => ?_
      refine tS_bind s q fun d ρ1 v H1 O1 e1 s1 r1 hk => ?_
      split at hk
      · cases r1
        exact ⟨_, rfl, hk H1 O1 e1 s1⟩
      · exact hk.elim
theorem Reps.cut {Z : Zx} {H : Hp} {O : List Addr} {vs : List V} {ds : List D} (r : Reps Z H O vs ds) (lo hi : Option Int) : Reps Z H O (cutV vs lo hi) (cutL ds lo hi) := by
  unfold cutV cutL
  rw [r.length]
  exact (r.drop _).take _
theorem strOk_cut {z : Str} (hz : PyData.strOk z = true) (lo hi : Option Int) : PyData.strOk (cutS z lo hi) = true := by
  unfold PyData.strOk cutS at *
  rw [← Array.all_toList] at hz ⊢
  rw [List.all_eq_true] at hz ⊢
  intro c hc
  exact hz c (List.mem_of_mem_drop (List.mem_of_mem_take hc))
theorem cutL_map {α β : Type} (f : α → β) (xs : List α) (lo hi : Option Int) : cutL (xs.map f) lo hi = (cutL xs lo hi).map f := by
  unfold cutL
  rw [List.length_map, List.map_take, List.map_drop]
theorem cutV_eq (xs : List V) (lo hi : Option Int) : cutV xs lo hi = cutL xs lo hi := rfl
theorem reps_ints {Z : Zx} {H : Hp} {O : List Addr} : ∀ ns : List Int, Reps Z H O (ns.map V.int) (ns.map D.int)
  | [] => .nil
  | n :: ns => .cons (.int n) (reps_ints ns)
theorem sl2 {X : Cx} {L : Lx} {H : Hp} {O : List Addr} {v : V} {d z : D} {lo hi : Option Int} {Q : VK} (t : ∀ b ∈ O, Trk H b) (rv : Rep (zx X L) H O v d) (hz : sliD d lo hi = some z)
    (q : ∀ u H', Same H H' → Rep (zx X L) H' O u z → Q u H') : rSlA X.K v lo hi H Q ∨ rSlL X.K v lo hi H Q ∨ rSlS v lo hi H Q := by
  cases d with
  | tup ds =>
    cases hz
    obtain ⟨p, xs, rfl, s1, r1⟩ := rv.tupSq
    refine .inl ⟨p, xs, rfl, s1, fun hw => ?_, fun hw l hl => q _ _ (same_new hl) (Rep.newT t hl (r1.cut lo hi))⟩
    have e : cutL ds lo hi = ds := by
      unfold cutL
      rw [← r1.length, hw.1, hw.2, r1.length]
      simp
    rw [e] at q
    exact q _ H (Same.refl H) rv
  | lst ds =>
    cases hz
    obtain ⟨p, xs, rfl, s1, n1, r1⟩ := rv.lstH
    exact .inr (.inl ⟨p, xs, rfl, SqL.of s1, fun l hl => q _ _ (same_new hl) (Rep.newL t hl (r1.cut lo hi))⟩)
  | scr ns =>
    cases hz
    obtain ⟨p, rfl, s1⟩ := rv.scrSq
    refine .inr (.inl ⟨p, _, rfl, s1, fun l hl => q _ _ (same_new hl) ?_⟩)
    rw [← cutL_map]
    exact Rep.newL t hl ((reps_ints ns).cut lo hi)
  | str y =>
    cases rv with
    | str _ hy =>
      have hz : (if y.length ≤ sizeLine then some (D.str (cutS y lo hi)) else none) = some z := hz
      split at hz
      · rename_i hl
        cases hz
        exact .inr (.inr ⟨y, rfl, hl, q _ H (Same.refl H) (.str _ (strOk_cut hy lo hi))⟩)
      · cases hz
  | _ => cases hz
def Ex.sli (a : Ex) (lo hi : Po) : Ex := .plain (fun ρ => (a.den ρ).bind fun x ρ1 => (lo.den ρ1).bind fun l ρ2 => (hi.den ρ2).bind fun u ρ3 => Out.lift (sliD x l u) ρ3)
    (fun k x => match x with | .Subscript x (.Slice l u none _) _ => a.chk k x && lo.chk k l && hi.chk k u | _ => false) (a.need.app (lo.need.app hi.need)) (fun {X L A W lev k} c n x h => by
  split at h
  · simp only [Bool.and_eq_true] at h
    refine PE.weak (pe_slice (sl_tupA.or (sl_list.or sl_str)) (a.ok c n.left _ h.1.1) (lo.ok c n.right.left _ h.1.2) (hi.ok c n.right.right _ h.2)) fun σ H Q ⟨ρ, O, s, q⟩ => ?_
    refine tS_bind s q fun d ρ1 v H1 O1 e1 s1 r1 hk => ?_
    refine ⟨ρ1, O1, s1, (Out.post_bind hk).mono (fun l ρ2 hk2 H2 O2 e2 s2 => ?_) fun x ρ z => z⟩
    refine ⟨ρ2, O2, s2, (Out.post_bind hk2).mono (fun u ρ3 hk3 H3 O3 e3 s3 => ?_) fun x ρ z => z.ext e2⟩
    obtain ⟨z, hz, hk3⟩ := post_lift hk3
    exact sl2 s3.trk (r1.ext (e2.trans e3)) hz fun u H' sm ru => hk3 u H' O3 (((e1.trans e2).trans e3).trans (Ext.same sm)) (s3.same sm) ru
  · cases h) (fun k x h => by split at h <;> first | rfl | cases h)
/-- a[::-1] of a list -/
def revD : D → Option D
  | .lst xs => some (.lst xs.reverse)
  | _ => none
def Ex.rev (a : Ex) : Ex := .plain (fun ρ => (a.den ρ).bind fun x ρ1 => Out.lift (revD x) ρ1)
    (fun k x => match x with | .Subscript x (.Slice none none (some (.UnaryOp .USub (.Constant (.int 1) _ _) _)) _) _ => a.chk k x | _ => false) a.need (fun {X L A W lev k} c n x h => by
  split at h
  · refine PE.weak (pe_revL (a.ok c n _ h)) fun σ H Q ⟨ρ, O, s, q⟩ => ?_
    refine tS_bind s q fun d ρ1 v H1 O1 e1 s1 r1 hk => ?_
    obtain ⟨z, hz, hk⟩ := post_lift hk
    unfold revD at hz
    split at hz
    · cases hz
      obtain ⟨p, xs, rfl, h1, n1, r2⟩ := r1.lstH
      exact ⟨p, xs, rfl, SqL.of h1, fun l hl => hk _ _ O1 (e1.trans (Ext.upd hl)) (s1.same (same_new hl)) (Rep.newL s1.trk hl r2.reverse)⟩
    · cases hz
  · cases h) (fun k x h => by split at h <;> first | rfl | cases h)
end Ev
set_option Elab.async false
set_option maxRecDepth 100000
set_option maxHeartbeats 4000000
/-! EvF: calls of the text's own defs. -/
namespace Ev
open PySem PySem.Spec PyProof.Rows L2

theorem noStars {es : List Expr} {env : PySem.Env} {pos : Pos} (h : es.all notStar = true) : (backTo pos (starEach es env)).any (·.1) = false := by
  induction es with
  | nil => rfl
  | cons e es ih =>
    rw [List.all_cons, Bool.and_eq_true] at h
    rw [starEach_cons h.1]
    exact ih h.2
section
variable {X : Cx} {L : Lx} {A : An} {W : WX} {lev : Nat} {k : Ck}
/-- the callee runs -/
theorem run_G {f : Addr} {fd : FuncData} {ps : List Str} {sp : Sp} {pins : List (Addr × Obj)} {σ : L2.St} {H : Hp} {s : Shared} {Q : VK} {us : List Value} {vs : List V} (c : Cxt X L A W lev k)
    (F : FnG X.prog X.w X.K X.mg X.base lev f fd ps sp) (hb : Binds X.K fd ps []) (I : Inv X pins σ H s) (r : Vals vs us) (h : sp vs H Q (WE W σ)) : wpAny (model X.prog X.w) X.A (call (.ref f) us) (EP X pins σ Q) X.xe s := by
  have hl : us.length = ps.length := by rw [← r.length]; exact F.len _ _ _ _ h
  have b := hb s us I.kIn (by rw [List.append_nil]; exact hl)
  rw [List.append_nil] at b
  refine wpAny_call (codeAny_mono (F.run X.A c.gd c.room X.stack s H ⟨us, []⟩ us vs Q (WE W σ) I.env0 b r h) fun res s' hq => ?_)
  match res, hq with
  | .error e, hq => exact passAt c.tk σ pins H s e s' I hq
  | .ok (.ret u), hq => exact I.after hq
end

/-! ### arguments: values, and own lists that are handed over -/
def ARep (Z : Zx) (H : Hp) (O : List Addr) (σ : L2.St) (own : List (Nat × Nat)) (vs : List V) (ds : List D) : Prop :=
  vs.length = ds.length ∧ ∀ (i : Nat) (v : V) (d : D), vs[i]? = some v → ds[i]? = some d → (∀ j, (i, j) ∈ own → σ[j]? = some (some v)) ∧ (i ∉ own.map (·.1) → Rep Z H O v d)
def tAr (Z : Zx) (A : An) (W : WX) (own : List (Nat × Nat)) (f : En → Out (List D)) : TA := fun σ H Q => ∃ ρ O, SR Z A H O σ ρ ∧ (f ρ).Post (fun ds ρ' => ∀ vs H' O', Ext H O H' O' → SR Z A H' O' σ ρ' → ARep Z H' O' σ own vs ds → Q vs H') (ErP Z A W H O)
structure Ar where
  den : En → Out (List D)
  own : List (Nat × Nat)
  chk : Ck → List Expr → Bool
  need : Need
  ok : ∀ {X : Cx} {L : Lx} {A : An} {W : WX} {lev : Nat} {k : Ck}, Cxt X L A W lev k → Has X L lev need → ∀ xs, chk k xs = true → PA X xs (tAr (zx X L) A W own den)
def up (own : List (Nat × Nat)) : List (Nat × Nat) := own.map fun p => (p.1 + 1, p.2)
theorem mem_up {own : List (Nat × Nat)} {i j : Nat} : (i, j) ∈ up own ↔ ∃ i', i = i' + 1 ∧ (i', j) ∈ own := by
  unfold up
  rw [List.mem_map]
  constructor
  · rintro ⟨⟨a, b⟩, h, e⟩
    cases e
    exact ⟨a, rfl, h⟩
  · rintro ⟨i', rfl, h⟩
    exact ⟨(i', j), h, rfl⟩
theorem fst_up {own : List (Nat × Nat)} {i : Nat} : i + 1 ∉ (up own).map (·.1) → i ∉ own.map (·.1) := fun h z => h (by
  obtain ⟨⟨a, b⟩, hm, e⟩ := List.mem_map.mp z
  cases e
  exact List.mem_map.mpr ⟨(a + 1, b), mem_up.mpr ⟨a, rfl, hm⟩, rfl⟩)
theorem ARep.ext {Z : Zx} {H H' : Hp} {O O' : List Addr} {σ : L2.St} {own : List (Nat × Nat)} {vs : List V} {ds : List D} (e : Ext H O H' O') (r : ARep Z H O σ own vs ds) : ARep Z H' O' σ own vs ds :=
  ⟨r.1, fun i v d h1 h2 => ⟨(r.2 i v d h1 h2).1, fun n => ((r.2 i v d h1 h2).2 n).ext e⟩⟩
theorem ARep.val {Z : Zx} {H : Hp} {O : List Addr} {σ : L2.St} {own : List (Nat × Nat)} {vs : List V} {ds : List D} {v : V} {d : D} (rv : Rep Z H O v d) (r : ARep Z H O σ own vs ds) : ARep Z H O σ (up own) (v :: vs) (d :: ds) := by
  refine ⟨by simp [r.1], fun i u e h1 h2 => ?_⟩
  cases i with
  | zero =>
    simp only [List.getElem?_cons_zero, Option.some.injEq] at h1 h2
    subst h1 h2
    refine ⟨fun j hj => ?_, fun _ => rv⟩
    obtain ⟨i', z, _⟩ := mem_up.mp hj
    cases z
  | succ i =>
    simp only [List.getElem?_cons_succ] at h1 h2
    obtain ⟨q1, q2⟩ := r.2 i u e h1 h2
    refine ⟨fun j hj => ?_, fun n => q2 (fst_up n)⟩
    obtain ⟨i', z, hm⟩ := mem_up.mp hj
    cases z
    exact q1 j hm
theorem ARep.own {Z : Zx} {H : Hp} {O : List Addr} {σ : L2.St} {own : List (Nat × Nat)} {vs : List V} {ds : List D} {v : V} {j : Nat} (hv : σ[j]? = some (some v)) (r : ARep Z H O σ own vs ds) : ARep Z H O σ ((0, j) :: up own) (v :: vs) (.non :: ds) := by
  refine ⟨by simp [r.1], fun i u e h1 h2 => ?_⟩
  cases i with
  | zero =>
    simp only [List.getElem?_cons_zero, Option.some.injEq] at h1 h2
    subst h1 h2
    refine ⟨fun j' hj => ?_, fun n => absurd (by simp) n⟩
    rcases List.mem_cons.mp hj with z | z
    · cases z; exact hv
    · obtain ⟨i', z, _⟩ := mem_up.mp z
      cases z
  | succ i =>
    simp only [List.getElem?_cons_succ] at h1 h2
    obtain ⟨q1, q2⟩ := r.2 i u e h1 h2
    refine ⟨fun j' hj => ?_, fun n => q2 (fst_up fun z => n (by rw [List.map_cons]; exact List.mem_cons_of_mem _ z))⟩
    rcases List.mem_cons.mp hj with z | z
    · cases z
    · obtain ⟨i', z, hm⟩ := mem_up.mp z
      cases z
      exact q1 j' hm
def Ar.nil : Ar where
  den := fun ρ => .ok [] ρ
  own := []
  chk := fun _ xs => xs.isEmpty
  need := .nil
  ok := fun {X L A W lev k} c n xs h => by
    cases xs with
    | nil => exact PA.weak pa_nil fun σ H Q ⟨ρ, O, s, q⟩ => q [] H O (Ext.refl H O) s ⟨rfl, fun i v d h _ => by simp at h⟩
    | cons _ _ => cases h
theorem tAr_bind {Z : Zx} {A : An} {W : WX} {H : Hp} {O : List Addr} {σ : L2.St} {ρ : En} {own : List (Nat × Nat)} {fa : En → Out (List D)} {α : Type} {kf : List D → En → Out α} {Qo : α → En → Prop} {Q : List V → Hp → Prop} (s : SR Z A H O σ ρ)
    (h : ((fa ρ).bind kf).Post Qo (ErP Z A W H O))
    (q : ∀ ds ρ1 vs H1 O1, Ext H O H1 O1 → SR Z A H1 O1 σ ρ1 → ARep Z H1 O1 σ own vs ds → (kf ds ρ1).Post Qo (ErP Z A W H1 O1) → Q vs H1) : tAr Z A W own fa σ H Q := by
  refine ⟨ρ, O, s, (Out.post_bind h).mono (fun d ρ1 hk vs H1 O1 e1 s1 r1 => q d ρ1 vs H1 O1 e1 s1 r1 ?_) fun x ρ1 hx => hx⟩
  exact hk.mono (fun _ _ z => z) fun x ρ1 z => z.ext e1
def Ar.cons (e : Ex) (r : Ar) : Ar where
  den := fun ρ => (e.den ρ).bind fun d ρ1 => (r.den ρ1).bind fun ds ρ2 => .ok (d :: ds) ρ2
  own := up r.own
  chk := fun k xs => match xs with | x :: xs => notStar x && e.chk k x && r.chk k xs | [] => false
  need := e.need.app r.need
  ok := fun {X L A W lev k} c n xs h => by
    cases xs with
    | nil => cases h
    | cons x xs =>
      have h : (notStar x && e.chk k x && r.chk k xs) = true := h
      simp only [Bool.and_eq_true] at h
      refine PA.weak (pa_cons (e.ok c n.left x h.1.2) (r.ok c n.right xs h.2) (starEach_cons h.1.1)) fun σ H Q ⟨ρ, O, s, q⟩ => ?_
      refine tS_bind s q fun d ρ1 v H1 O1 e1 s1 r1 hk => ?_
      refine tAr_bind s1 hk fun ds ρ2 vs H2 O2 e2 s2 r2 hk2 => ?_
      exact hk2 (v :: vs) H2 O2 (e1.trans e2) s2 (ARep.val (r1.ext e2) r2)
def isOwn (ρ : En) (j : Nat) : Bool := match ρ[j]? with
  | some (.o _) => true
  | _ => false
def Ar.own_ (j : Nat) (r : Ar) : Ar where
  den := fun ρ => if isOwn ρ j = true then (r.den ρ).bind fun ds ρ2 => .ok (.non :: ds) ρ2 else .no
  own := (0, j) :: up r.own
  chk := fun k xs => match xs with | .Name x _ :: xs => k.vis j x && r.chk k xs | _ => false
  need := r.need
  ok := fun {X L A W lev k} c n xs h => by
    split at h
    · rename_i x pos xs
      rw [Bool.and_eq_true] at h
      obtain ⟨h1, h2, h3, h4⟩ := c.visOk h.1
      refine PA.weak (pa_cons (pe_var h1 h2 h3 h4) (r.ok c n xs h.2) rfl) fun σ H Q ⟨ρ, O, s, q⟩ => ?_
      dsimp only at q
      split at q
      · rename_i ho
        unfold isOwn at ho
        split at ho
        · rename_i d e
          obtain ⟨a, ha, hO, _⟩ := s.own j d e
          refine ⟨_, ha, ?_⟩
          refine tAr_bind s q fun ds ρ2 vs H2 O2 e2 s2 r2 hk2 => ?_
          exact hk2 _ H2 O2 e2 s2 (ARep.own ha r2)
        · cases ho
      · exact q.elim
    · cases h

/-! ### the call -/
def fill : List (Nat × Nat) → En → List D → Option (List D)
  | [], _, ds => some ds
  | (p, j) :: r, ρ, ds => match ρ[j]? with
    | some (.o d) => fill r ρ (ds.set p d)
    | _ => none
def put : List (Nat × Nat) → List D → En → Option En
  | [], [], ρ => some ρ
  | (_, j) :: r, d :: os, ρ => put r os (ρ.set j (.o d))
  | _, _, _ => none
def D.isLst : D → Bool
  | .lst _ => true
  | _ => false
def okF (F : FSem) (d : D) : Bool := !F.fresh || d.isLst
theorem okF_lst {F : FSem} {d : D} (h : okF F d = true) (hf : F.fresh = true) : ∃ es, d = .lst es := by
  unfold okF at h
  rw [hf] at h
  cases d <;> first | exact ⟨_, rfl⟩ | cases h
def callK (F : FSem) (own : List (Nat × Nat)) (ds : List D) (ρ : En) : Out D := match fill own ρ ds with
  | none => .no
  | some ds' => match F.den ds' with
    | .no => .no
    | .ok d os => if okF F d = true then (match put own os ρ with | some ρ' => .ok d ρ' | none => .no) else .no
    | .er x os => (match put own os ρ with | some ρ' => .er x ρ' | none => .no)
theorem fill_spec : ∀ {own : List (Nat × Nat)} {ρ : En} {ds ds' : List D}, fill own ρ ds = some ds' → (own.map (·.1)).Nodup → (∀ p ∈ own, p.1 < ds.length) →
    ds'.length = ds.length ∧ (∀ (i : Nat), i ∉ own.map (·.1) → ds'[i]? = ds[i]?) ∧ ∀ p ∈ own, ∃ d, ρ[p.2]? = some (.o d) ∧ ds'[p.1]? = some d
  | [], ρ, ds, ds', h, _, _ => by cases h; exact ⟨rfl, fun _ _ => rfl, fun p hp => nomatch hp⟩
  | (p, j) :: r, ρ, ds, ds', h, nd, hlt => by
    unfold fill at h
    split at h
    · rename_i d e
      rw [List.map_cons, List.nodup_cons] at nd
      obtain ⟨h1, h2, h3⟩ := fill_spec h nd.2 fun q hq => by rw [List.length_set]; exact hlt q (List.mem_cons_of_mem _ hq)
      rw [List.length_set] at h1
      refine ⟨h1, fun i hi => ?_, fun q hq => ?_⟩
      · rw [List.map_cons, List.mem_cons, not_or] at hi
        rw [h2 i hi.2, List.getElem?_set_ne (fun z => hi.1 z.symm)]
      · rcases List.mem_cons.mp hq with rfl | hq
        · exact ⟨d, e, by rw [h2 _ nd.1, List.getElem?_set_self (hlt _ List.mem_cons_self)]⟩
        · exact h3 q hq
    · cases h
theorem put_spec : ∀ {own : List (Nat × Nat)} {os : List D} {ρ ρ' : En}, put own os ρ = some ρ' → (own.map (·.2)).Nodup → (∀ p ∈ own, p.2 < ρ.length) →
    ρ'.length = ρ.length ∧ os.length = own.length ∧ (∀ (i : Nat), i ∉ own.map (·.2) → ρ'[i]? = ρ[i]?) ∧ ∀ (n : Nat) (p : Nat × Nat), own[n]? = some p → ∃ d, os[n]? = some d ∧ ρ'[p.2]? = some (.o d)
  | [], [], ρ, ρ', h, _, _ => by cases h; exact ⟨rfl, rfl, fun _ _ => rfl, fun n p hp => by simp at hp⟩
  | [], _ :: _, ρ, ρ', h, _, _ => by cases h
  | (p, j) :: r, [], ρ, ρ', h, _, _ => by cases h
  | (p, j) :: r, d :: os, ρ, ρ', h, nd, hlt => by
    unfold put at h
    rw [List.map_cons, List.nodup_cons] at nd
    obtain ⟨h1, h2, h3, h4⟩ := put_spec h nd.2 fun q hq => by rw [List.length_set]; exact hlt q (List.mem_cons_of_mem _ hq)
    rw [List.length_set] at h1
    refine ⟨h1, by simp [h2], fun i hi => ?_, fun n q hq => ?_⟩
    · rw [List.map_cons, List.mem_cons, not_or] at hi
      rw [h3 i hi.2, List.getElem?_set_ne (fun z => hi.1 z.symm)]
    · cases n with
      | zero =>
        simp only [List.getElem?_cons_zero, Option.some.injEq] at hq
        subst hq
        exact ⟨d, rfl, by rw [h3 _ nd.1, List.getElem?_set_self (hlt _ List.mem_cons_self)]⟩
      | succ n => exact h4 n q (by simpa using hq)
section
variable {Z : Zx} {A : An} {H H' : Hp} {O : List Addr} {σ : L2.St} {ρ ρ' : En} {own : List (Nat × Nat)} {as : List Addr} {os : List D}
/-- the own lists' places -/
def AtOwn (σ : L2.St) (own : List (Nat × Nat)) (as : List Addr) : Prop := as.length = own.length ∧ ∀ (n : Nat) (p : Nat × Nat) (a : Addr), own[n]? = some p → as[n]? = some a → σ[p.2]? = some (some (.ref a))
/-- behind a call -/
theorem SR.calledO {O2 : List Addr} (s : SR Z A H O σ ρ) (hO : ∀ b ∈ O, b ∈ O2) (hn : ∀ b u, H b = some u → b ∉ O → b ∉ O2) (ht : ∀ b ∈ O2, b ∉ O → Trk H' b) (at_ : AtOwn σ own as) (nd : (own.map (·.2)).Nodup) (ho : ∀ p ∈ own, ∃ d, ρ[p.2]? = some (.o d))
    (e0 : Ext0 H as H') (tb : NdefX.TabsN Z.T H') (out : OutsR Z H' O2 as os) (hp : put own os ρ = some ρ') : Ext H O H' O2 ∧ SR Z A H' O2 σ ρ' := by
  have hlt : ∀ p ∈ own, p.2 < ρ.length := fun p hp' => by
    obtain ⟨d, e⟩ := ho p hp'
    exact (List.getElem?_eq_some_iff.mp e).1
  obtain ⟨l1, l2, q1, q2⟩ := put_spec hp nd hlt
  have inO : ∀ a ∈ as, ∃ (n : Nat) (p : Nat × Nat) (d : D), own[n]? = some p ∧ as[n]? = some a ∧ ρ[p.2]? = some (.o d) ∧ σ[p.2]? = some (some (.ref a)) := fun a ha => by
    obtain ⟨n, hn⟩ := List.mem_iff_getElem?.mp ha
    have hn' : n < own.length := by rw [← at_.1]; exact (List.getElem?_eq_some_iff.mp hn).1
    obtain ⟨d, e⟩ := ho own[n] (List.getElem_mem hn')
    exact ⟨n, own[n], d, List.getElem?_eq_getElem hn', hn, e, at_.2 n _ a (List.getElem?_eq_getElem hn') hn⟩
  have ownA : ∀ a ∈ as, a ∈ O ∧ (a ∈ A.W ∨ (A.H a = none ∧ a ∉ A.O)) := fun a ha => by
    obtain ⟨n, p, d, _, _, e, hs⟩ := inO a ha
    obtain ⟨a', h1, ⟨_, _, _, h2, _⟩, h3⟩ := s.own p.2 d e
    rw [hs] at h1
    cases h1
    exact ⟨h2, h3⟩
  have ex : Ext H O H' O2 := fun b u hb nb nt => ⟨e0.st b u hb (fun z => nb (ownA b z).1) nt, hn b u hb nb⟩
  refine ⟨ex, ⟨by rw [l1]; exact s.len, fun i d e => ?_, fun i d e => ?_, fun i j d e a h1 h2 h3 h4 => ?_, tb, fun b u h1 h2 h3 => ?_, fun b hb => e0.dom b (s.dom b hb), fun b hb => hO b (s.sub b hb), fun b hb => ?_, fun p hp' => ?_⟩⟩
  · have ni : i ∉ own.map (·.2) := fun z => by
      obtain ⟨p, hp', rfl⟩ := List.mem_map.mp z
      obtain ⟨n, hn⟩ := List.mem_iff_getElem?.mp hp'
      obtain ⟨d', _, e'⟩ := q2 n p hn
      rw [e] at e'
      cases e'
    rw [q1 i ni] at e
    obtain ⟨v, hv, r⟩ := s.val i d e
    exact ⟨v, hv, r.ext ex⟩
  · by_cases hi : i ∈ own.map (·.2)
    · obtain ⟨p, hp', rfl⟩ := List.mem_map.mp hi
      obtain ⟨n, hn⟩ := List.mem_iff_getElem?.mp hp'
      obtain ⟨d', hd, e'⟩ := q2 n p hn
      rw [e] at e'
      cases e'
      have hn' : n < as.length := by rw [at_.1]; exact (List.getElem?_eq_some_iff.mp hn).1
      obtain ⟨d2, h2, h3⟩ := out.2 n as[n] (List.getElem?_eq_getElem hn')
      rw [hd] at h2
      cases h2
      exact ⟨as[n], at_.2 n p _ hn (List.getElem?_eq_getElem hn'), h3, (ownA _ (List.getElem_mem hn')).2⟩
    · rw [q1 i hi] at e
      obtain ⟨a, h1, ⟨xs, ds, g1, g2, g3, g4⟩, h3⟩ := s.own i d e
      refine ⟨a, h1, ⟨xs, ds, g1, hO a g2, e0.st a _ g3 (fun z => ?_) (fun ps z => nomatch z), g4.ext ex⟩, h3⟩
      obtain ⟨n, p, d2, hn, _, e2, hs⟩ := inO a z
      have := s.sep i p.2 d d2 a e e2 h1 hs
      exact hi (List.mem_map.mpr ⟨p, List.mem_of_getElem? hn, this.symm⟩)
  · have back : ∀ (i : Nat) (d : D), ρ'[i]? = some (.o d) → ∃ d', ρ[i]? = some (.o d') := fun i d e => by
      by_cases hi : i ∈ own.map (·.2)
      · obtain ⟨p, hp', rfl⟩ := List.mem_map.mp hi
        exact ho p hp'
      · rw [q1 i hi] at e
        exact ⟨d, e⟩
    obtain ⟨d', g1⟩ := back i d h1
    obtain ⟨e', g2⟩ := back j e h2
    exact s.sep i j d' e' a g1 g2 h3 h4
  · refine e0.st b u (s.anc b u h1 h2 h3) (fun z => ?_) h3
    rcases (ownA b z).2 with q | ⟨q, _⟩
    · exact h2 q
    · rw [h1] at q
      cases q
  · by_cases hb' : b ∈ as
    · obtain ⟨n, hn⟩ := List.mem_iff_getElem?.mp hb'
      obtain ⟨d, _, xs, ds, _, _, g, _⟩ := out.2 n b hn
      exact ⟨_, g, fun ps z => (nomatch z), .inl ⟨_, rfl⟩⟩
    · by_cases hbO : b ∈ O
      · obtain ⟨u, h1, h2, h3⟩ := s.trk b hbO
        exact ⟨u, e0.st b u h1 hb' h2, h2, h3⟩
      · exact ht b hb hbO
  · obtain ⟨h1, d, h2⟩ := s.io p hp'
    refine ⟨h1, ?_⟩
    by_cases hi : p.1 ∈ own.map (·.2)
    · obtain ⟨q, hq, e⟩ := List.mem_map.mp hi
      obtain ⟨n, hn⟩ := List.mem_iff_getElem?.mp hq
      obtain ⟨d', _, e'⟩ := q2 n q hn
      rw [← e]
      exact ⟨d', e'⟩
    · exact ⟨d, by rw [q1 _ hi]; exact h2⟩
theorem SR.called (s : SR Z A H O σ ρ) (at_ : AtOwn σ own as) (nd : (own.map (·.2)).Nodup) (ho : ∀ p ∈ own, ∃ d, ρ[p.2]? = some (.o d)) (e0 : Ext0 H as H') (tb : NdefX.TabsN Z.T H') (out : OutsR Z H' O as os) (hp : put own os ρ = some ρ') :
    Ext H O H' O ∧ SR Z A H' O σ ρ' := s.calledO (fun _ h => h) (fun _ _ _ n => n) (fun b h n => absurd h n) at_ nd ho e0 tb out hp
/-- the places of own lists -/
theorem SR.atOwn (s : SR Z A H O σ ρ) : ∀ (own : List (Nat × Nat)), (∀ p ∈ own, ∃ d, ρ[p.2]? = some (.o d)) → ∃ as, AtOwn σ own as
  | [], _ => ⟨[], rfl, fun n p a h _ => by simp at h⟩
  | p :: r, ho => by
    obtain ⟨as, h1, h2⟩ := SR.atOwn s r fun q hq => ho q (List.mem_cons_of_mem _ hq)
    obtain ⟨d, e⟩ := ho p List.mem_cons_self
    obtain ⟨a, ha, _⟩ := s.own p.2 d e
    refine ⟨a :: as, by simp [h1], fun n q b g1 g2 => ?_⟩
    cases n with
    | zero => simp at g1 g2; subst g1 g2; exact ha
    | succ n => exact h2 n q b (by simpa using g1) (by simpa using g2)
theorem SR.argsR {vs : List V} {ds ds' : List D} (s : SR Z A H O σ ρ) (at_ : AtOwn σ own as) (nd1 : (own.map (·.1)).Nodup) (nd2 : (own.map (·.2)).Nodup) (r : ARep Z H O σ own vs ds) (hl : ∀ p ∈ own, p.1 < ds.length) (hf : fill own ρ ds = some ds') : ArgsR Z H O (own.map (·.1)) as vs ds' := by
  obtain ⟨l1, q1, q2⟩ := fill_spec hf nd1 hl
  refine ⟨by rw [l1]; exact r.1, by rw [List.length_map]; exact at_.1, ?_, fun i v d h1 h2 h3 => ?_, fun j i a h1 h2 => ?_⟩
  · refine List.pairwise_iff_getElem.mpr fun i j hi hj hij e => ?_
    have hi' : i < own.length := by rw [← at_.1]; exact hi
    have hj' : j < own.length := by rw [← at_.1]; exact hj
    have e1 : as[i]? = some as[i] := List.getElem?_eq_getElem hi
    have e2 : as[j]? = some as[i] := by rw [e]; exact List.getElem?_eq_getElem hj
    have g1 := at_.2 i own[i] as[i] (List.getElem?_eq_getElem hi') e1
    have g2 := at_.2 j own[j] as[i] (List.getElem?_eq_getElem hj') e2
    obtain ⟨d1, f1, _⟩ := q2 own[i] (List.getElem_mem hi')
    obtain ⟨d2, f2, _⟩ := q2 own[j] (List.getElem_mem hj')
    have e3 := s.sep _ _ d1 d2 as[i] f1 f2 g1 g2
    have nd3 := List.pairwise_iff_getElem.mp nd2 i j (by rw [List.length_map]; exact hi') (by rw [List.length_map]; exact hj') hij
    rw [List.getElem_map, List.getElem_map] at nd3
    exact nd3 e3
  · have hd : ds[i]? = some d := by rw [← q1 i h3]; exact h2
    exact (r.2 i v d h1 hd).2 h3
  · rw [List.getElem?_map] at h1
    obtain ⟨p, hp, rfl⟩ := Option.map_eq_some_iff.mp h1
    obtain ⟨d, e1, e2⟩ := q2 p (List.mem_of_getElem? hp)
    have hs := at_.2 j p a hp h2
    have hlen : p.1 < ds.length := hl p (List.mem_of_getElem? hp)
    have hv : p.1 < vs.length := by rw [r.1]; exact hlen
    have g := (r.2 p.1 vs[p.1] ds[p.1] (List.getElem?_eq_getElem hv) (List.getElem?_eq_getElem hlen)).1 p.2 (List.mem_of_getElem? hp)
    rw [hs] at g
    obtain ⟨a', h3, h4, _⟩ := s.own p.2 d e1
    rw [hs] at h3
    cases h3
    refine ⟨d, e2, ?_, h4⟩
    rw [List.getElem?_eq_getElem hv]
    exact (Option.some.inj g).symm
end
/-- f(..), f a def of the text -/
def callD (F : FSem) (ar : Ar) : En → Out D := fun ρ => (ar.den ρ).bind fun ds ρ1 => if ds.length = F.ar then callK F ar.own ds ρ1 else .no
def ownFits (F : FSem) (own : List (Nat × Nat)) : Bool := decide (F.io = own.map (·.1)) && decide ((own.map (·.1)).Nodup) && decide ((own.map (·.2)).Nodup) && own.all fun p => decide (p.1 < F.ar)
section
variable {X : Cx} {L : Lx} {A : An} {W : WX} {lev : Nat} {k : Ck}
theorem fill_own : ∀ {own : List (Nat × Nat)} {ρ : En} {ds ds' : List D}, fill own ρ ds = some ds' → ∀ p ∈ own, ∃ d, ρ[p.2]? = some (.o d)
  | [], _, _, _, _, p, hp => nomatch hp
  | (p, j) :: r, ρ, ds, ds', h, q, hq => by
    unfold fill at h
    split at h
    · rename_i d e
      rcases List.mem_cons.mp hq with rfl | hq
      · exact ⟨d, e⟩
      · exact fill_own h q hq
    · cases h
/-- the promise's reading, from what the call tells -/
theorem call_sp {F : FSem} {own : List (Nat × Nat)} {σ : L2.St} {H : Hp} {O : List Addr} {ρ : En} {vs : List V} {ds : List D} {P : D → En → Prop} (s : SR (zx X L) A H O σ ρ) (hf : ownFits F own = true) (hl : ds.length = F.ar)
    (r : ARep (zx X L) H O σ own vs ds) (q : (callK F own ds ρ).Post P (ErP (zx X L) A W H O)) {Q : VK}
    (hQ : ∀ d ρ', P d ρ' → (∀ es, F.fresh = true → d = .lst es → ∀ p xs H', Ext H O H' O → H p = none → p ∉ O → H' p = some (.lst xs) → SR (zx X L) A H' O σ ρ' → SR (zx X L) A H' (p :: O) σ ρ' → Reps (zx X L) H' (p :: O) xs es → Q (.ref p) H') ∧
      (F.fresh = false → ∀ v H', Ext H O H' O → SR (zx X L) A H' O σ ρ' → Rep (zx X L) H' O v d → Q v H')) : spOf (zx X L) F vs H Q (WE W σ) := by
  unfold ownFits at hf
  simp only [Bool.and_eq_true, decide_eq_true_eq, List.all_eq_true] at hf
  obtain ⟨⟨⟨f1, f2⟩, f3⟩, f4⟩ := hf
  unfold callK at q
  split at q
  · exact q.elim
  · rename_i ds' hfill
    have ho := fill_own hfill
    obtain ⟨as, at_⟩ := s.atOwn own ho
    have hA := s.argsR at_ f2 f3 r (fun p hp => by rw [hl]; exact f4 p hp) hfill
    have hlen : ds'.length = F.ar := by
      rw [← hl]
      exact (fill_spec hfill f2 fun p hp => by rw [hl]; exact f4 p hp).1
    refine ⟨O, as, ds', s.trk, s.tabs, by rw [f1]; exact hA, hlen, ?_⟩
    split at q
    · exact q.elim
    · rename_i d os hden
      try rw [hden]
      by_cases hok : okF F d = true
      case neg =>
        rw [if_neg hok] at q
        exact q.elim
      rw [if_pos hok] at q
      split at q
      · rename_i ρ' hput
        obtain ⟨q1, q2⟩ := hQ d ρ' q
        refine ⟨fun hfr => ?_, fun hfr v H' e0 tb out rv => ?_⟩
        · obtain ⟨es, rfl⟩ := okF_lst hok hfr
          have q3 := q1 es hfr rfl
          refine ⟨es, rfl, fun p xs H' e0 tb hp hp' rs out => ?_⟩
          have np : p ∉ O := fresh_of s.trk hp
          have out2 : OutsR (zx X L) H' O as os := ⟨out.1, fun j a hj => by
            obtain ⟨d, h1, ys, es, h2, h3, h4, h5⟩ := out.2 j a hj
            refine ⟨d, h1, ys, es, h2, ?_, h4, h5.ext Ext.pop⟩
            rcases List.mem_cons.mp h3 with z | z
            · exfalso
              have hj' : j < own.length := by rw [← at_.1]; exact (List.getElem?_eq_some_iff.mp hj).1
              obtain ⟨d2, e2⟩ := ho own[j] (List.getElem_mem hj')
              obtain ⟨a', g1, ⟨_, _, _, g2, _⟩, _⟩ := s.own _ d2 e2
              have g3 := at_.2 j own[j] a (List.getElem?_eq_getElem hj') hj
              rw [g3] at g1
              cases g1
              rw [z] at g2
              exact np g2
            · exact z⟩
          obtain ⟨ex0, s0⟩ := s.called at_ f3 ho e0 tb out2 hput
          have hn2 : ∀ b u, H b = some u → b ∉ O → b ∉ p :: O := fun b u hb nb z => by
            rcases List.mem_cons.mp z with z | z
            · rw [z, hp] at hb
              cases hb
            · exact nb z
          have ht2 : ∀ b ∈ p :: O, b ∉ O → Trk H' b := fun b hb nb => by
            rcases List.mem_cons.mp hb with z | z
            · rw [z]
              exact ⟨_, hp', fun ps z => (nomatch z), .inl ⟨_, rfl⟩⟩
            · exact absurd z nb
          obtain ⟨ex, s'⟩ := s.calledO (O2 := p :: O) (fun _ h => List.mem_cons_of_mem _ h) hn2 ht2 at_ f3 ho e0 tb out hput
          exact q3 p xs H' ex0 hp np hp' s0 s' rs
        · obtain ⟨ex, s'⟩ := s.called at_ f3 ho e0 tb out hput
          exact q2 hfr v H' ex s' rv
      · exact q.elim
    · rename_i x os hden
      try rw [hden]
      split at q
      · rename_i ρ' hput
        intro cls dd H' e0 tb out rx
        obtain ⟨ex, s'⟩ := s.called at_ f3 ho e0 tb out hput
        exact q σ cls dd H' O ex s' rx
      · exact q.elim
end
theorem callD_split {F : FSem} {ar : Ar} {ρ1 : En} {ds : List D} {P : D → En → Prop} {R : Xn → En → Prop} (q : (if ds.length = F.ar then callK F ar.own ds ρ1 else .no : Out D).Post P R) : ds.length = F.ar ∧ (callK F ar.own ds ρ1).Post P R := by
  split at q
  · rename_i h
    exact ⟨h, q⟩
  · exact q.elim
def callChk (x : Str) (F : FSem) (ar : Ar) (k : Ck) (e : Expr) : Bool := match e with
  | .Call (.Name y _) (a :: as) [] _ => decide (y = x) && k.gl y && notStar a && as.all notStar && ownFits F ar.own && ar.chk k (a :: as)
  | _ => false
/-- a call, where what is wanted is wanted of the callee's end -/
theorem pe_callG {X : Cx} {L : Lx} {A : An} {W : WX} {lev : Nat} {k : Ck} {x : Str} {F : FSem} {ar : Ar} {e : Expr} {t : TE} (c : Cxt X L A W lev k) (n : Has X L lev (Need.app (.fn x F) ar.need)) (h : callChk x F ar k e = true)
    (ht : ∀ σ H Q, t σ H Q → tAr (zx X L) A W ar.own ar.den σ H fun vs H1 => spOf (zx X L) F vs H1 Q (WE W σ)) : PE X e t := by
  unfold callChk at h
  obtain ⟨f, fd, ps, h1, h2, h3, h4, h5⟩ := n.left.fs (x, F) (List.mem_singleton.mpr rfl)
  split at h
  · rename_i y p a as pos
    simp only [Bool.and_eq_true, decide_eq_true_eq] at h
    obtain ⟨⟨⟨⟨⟨rfl, g1⟩, g2⟩, g3⟩, g4⟩, g5⟩ := h
    obtain ⟨c1, c2, c3⟩ := c.glOk g1
    refine ⟨fun pins s σ H Q I q => ?_⟩
    refine wpAny_Call_Name_kw (ld_glob I c1 h1 ?_ c2)
    refine PySem.W.callWith_K (h₀ := X.base) I.ok.mod.kin h2 (thn ((ar.ok c n.right _ g5).run pos pins s σ H _ I (ht σ H Q q)) fun us s1 ⟨vs, H1, I1, r, q1⟩ => ⟨I1.kIn, ?_⟩) (starEach_cons g2) (noStars g3)
    exact run_G c h5 h4 I1 r q1
  · cases h
def Ex.call (x : Str) (F : FSem) (ar : Ar) : Ex := .plain (callD F ar) (callChk x F ar) (Need.app (.fn x F) ar.need) (fun {X L A W lev k} c n e h => by
  have hf : ownFits F ar.own = true := by
    unfold callChk at h
    split at h <;> first | cases h | (simp only [Bool.and_eq_true] at h; exact h.1.2)
  refine pe_callG c n h fun σ H Q ⟨ρ, O, s, q⟩ => ?_
  refine tAr_bind s q fun ds ρ1 vs H1 O1 e1 s1 r1 hk => ?_
  obtain ⟨hl, hk⟩ := callD_split hk
  refine call_sp s1 hf hl r1 hk fun d ρ' hd => ⟨fun es hfr hes p xs H' e' hp np hp' s' s2 rs => ?_, fun hfr v H' e' s' rv => hd v H' O1 (e1.trans e') s' rv⟩
  subst hes
  exact hd _ H' O1 (e1.trans e') s' (.lst ⟨hp', np⟩ (rs.ext Ext.pop))) (fun k x h => by unfold callChk at h; split at h <;> first | rfl | cases h)
/-- f() -/
def Ex.call0 (x : Str) (F : FSem) : Ex := .plain (fun ρ => if (0 : Nat) = F.ar then callK F [] [] ρ else .no) (fun k e => match e with | .Call (.Name y _) [] [] _ => decide (y = x) && k.gl y && ownFits F [] | _ => false) (.fn x F) (fun {X L A W lev k} c n e h => by
  obtain ⟨f, fd, ps, h1, h2, h3, h4, h5⟩ := n.fs (x, F) (List.mem_singleton.mpr rfl)
  split at h
  · simp only [Bool.and_eq_true, decide_eq_true_eq] at h
    obtain ⟨⟨rfl, g1⟩, g4⟩ := h
    obtain ⟨c1, c2, c3⟩ := c.glOk g1
    refine ⟨fun pins s σ H Q I q => ?_⟩
    refine wpAny_Call_Name_kw (ld_glob I c1 h1 ?_ c2)
    refine PySem.W.callWith_K0 I.kIn h2 (run_G (us := []) (vs := []) c h5 h4 I .nil ?_)
    obtain ⟨ρ, O, sr, q⟩ := q
    dsimp only at q
    split at q
    · rename_i hl
      refine call_sp (own := []) (ds := []) sr g4 hl ⟨rfl, fun i v d hv _ => by simp at hv⟩ q fun d ρ' hd => ⟨fun es hfr hes p xs H' e' hp np hp' s' s2 rs => ?_, fun hfr v H' e' s' rv => hd v H' O e' s' rv⟩
      subst hes
      exact hd _ H' O e' s' (.lst ⟨hp', np⟩ (rs.ext Ext.pop))
    · exact q.elim
  · cases h) (fun k x h => by split at h <;> first | rfl | cases h)
end Ev
set_option Elab.async false
set_option maxRecDepth 100000
set_option maxHeartbeats 4000000
/-! EvG: built-in functions. -/
namespace Ev
open PySem PySem.Spec PyProof.Rows L2

def CallD (X : Cx) (L : Lx) (f : Value) (g : List D → Option D) : Prop :=
  ∃ r : List V → Hp → VK → Prop, CallR X f r ∧ ∀ (H : Hp) (O : List Addr) (vs : List V) (ds : List D) (z : D) (Q : VK), (∀ b ∈ O, Trk H b) → Reps (zx X L) H O vs ds → g ds = some z → (∀ u H', Same H H' → Rep (zx X L) H' O u z → Q u H') → r vs H Q
def dCall (g : List D → Option D) (as : As) : En → Out D := fun ρ => (as.den ρ).bind fun ds ρ1 => Out.lift (g ds) ρ1
def bltChk (y : Str) (as : As) (k : Ck) (e : Expr) : Bool := match e with
  | .Call (.Name x _) (a :: es) [] _ => decide (x = y) && k.gl x && notStar a && es.all notStar && as.chk k (a :: es)
  | _ => false
theorem s_call {X : Cx} {L : Lx} {A : An} {W : WX} {g : List D → Option D} {as : As} {r : List V → Hp → VK → Prop} {σ : L2.St} {H : Hp} {Q : VK}
    (hr : ∀ (H : Hp) (O : List Addr) (vs : List V) (ds : List D) (z : D) (Q : VK), (∀ b ∈ O, Trk H b) → Reps (zx X L) H O vs ds → g ds = some z → (∀ u H', Same H H' → Rep (zx X L) H' O u z → Q u H') → r vs H Q)
    (q : tS (zx X L) A W (dCall g as) σ H Q) : tCB r (tA (zx X L) A W as.den) σ H Q := by
  obtain ⟨ρ, O, s, q⟩ := q
  refine tA_bind s q fun ds ρ1 vs H1 O1 e1 s1 r1 hk => ?_
  obtain ⟨z, hz, hk⟩ := post_lift hk
  exact hr H1 O1 vs ds z _ s1.trk r1 hz fun u H' sm ru => hk u H' O1 (e1.trans (Ext.same sm)) (s1.same sm) ru
structure BFn where
  y : Str
  id : String
  g : List D → Option D
  hc : ∀ {X : Cx} {L : Lx}, X.calm = true → CallD X L (.builtin id) g
  hv : bootBuiltins y = some (.builtin id)
  hb : y ∈ blts
  hn : y ≠ "__name__"
  hd : (y == ("__debug__" : Str)) = false
def Ex.bfn (b : BFn) (as : As) : Ex := .plain (dCall b.g as) (bltChk b.y as) as.need (fun {X L A W lev k} c n e h => by
  unfold bltChk at h
  split at h
  · simp only [Bool.and_eq_true, decide_eq_true_eq] at h
    obtain ⟨⟨⟨⟨hx, g1⟩, g2⟩, g3⟩, g4⟩ := h
    obtain ⟨c1, _, _⟩ := c.glOk g1
    obtain ⟨r, hr1, hr2⟩ := b.hc (X := X) (L := L) c.calm
    rw [hx] at c1 ⊢
    exact PE.weak (pe_callB hr1 c1 (c.blt _ b.hb) b.hv (as.ok c n _ g4) b.hn b.hd (starEach_cons g2) (noStars g3)) fun σ H Q q => s_call hr2 q
  · cases h) (fun k x h => by unfold bltChk at h; split at h <;> first | rfl | cases h)
structure TFn where
  y : Str
  id : String
  g : List D → Option D
  hc : ∀ {X : Cx} {L : Lx}, X.calm = true → CallD X L (.type id) g
  hv : bootBuiltins y = some (.type id)
  hb : y ∈ blts
  hn : y ≠ "__name__"
  hd : (y == ("__debug__" : Str)) = false
def Ex.tfn (b : TFn) (as : As) : Ex := .plain (dCall b.g as) (bltChk b.y as) as.need (fun {X L A W lev k} c n e h => by
  unfold bltChk at h
  split at h
  · simp only [Bool.and_eq_true, decide_eq_true_eq] at h
    obtain ⟨⟨⟨⟨hx, g1⟩, g2⟩, g3⟩, g4⟩ := h
    obtain ⟨c1, _, _⟩ := c.glOk g1
    obtain ⟨r, hr1, hr2⟩ := b.hc (X := X) (L := L) c.calm
    rw [hx] at c1 ⊢
    exact PE.weak (pe_callTy hr1 c1 (c.blt _ b.hb) b.hv (as.ok c n _ g4) b.hn b.hd (starEach_cons g2) (noStars g3)) fun σ H Q q => s_call hr2 q
  · cases h) (fun k x h => by unfold bltChk at h; split at h <;> first | rfl | cases h)

section
variable {X : Cx} {L : Lx} {H : Hp} {O : List Addr}
theorem Reps.one {vs : List V} {d : D} (r : Reps (zx X L) H O vs [d]) : ∃ v, vs = [v] ∧ Rep (zx X L) H O v d := by
  cases r with
  | cons r t => cases t; exact ⟨_, rfl, r⟩
theorem Reps.two {vs : List V} {d e : D} (r : Reps (zx X L) H O vs [d, e]) : ∃ v w, vs = [v, w] ∧ Rep (zx X L) H O v d ∧ Rep (zx X L) H O w e := by
  cases r with
  | cons r t => cases t with
    | cons r2 t => cases t; exact ⟨_, _, rfl, r, r2⟩
end
/-! ### ints, bools in a list -/
def intsOf : List D → Option (List Int)
  | [] => some []
  | .int i :: r => (intsOf r).map (i :: ·)
  | _ :: _ => none
def blsOf : List D → Option (List Bool)
  | [] => some []
  | .bl b :: r => (blsOf r).map (b :: ·)
  | _ :: _ => none
theorem intsOf_map : ∀ ns : List Int, intsOf (ns.map D.int) = some ns
  | [] => rfl
  | n :: ns => by simp [intsOf, intsOf_map ns]
theorem blsOf_map : ∀ ns : List Bool, blsOf (ns.map D.bl) = some ns
  | [] => rfl
  | n :: ns => by simp [blsOf, blsOf_map ns]
theorem intsOf_eq : ∀ {ds : List D} {ns : List Int}, intsOf ds = some ns → ds = ns.map D.int
  | [], ns, h => by cases h; rfl
  | .int i :: r, ns, h => by
    obtain ⟨ms, h1, rfl⟩ := Option.map_eq_some_iff.mp (show (intsOf r).map (i :: ·) = some ns from h)
    rw [intsOf_eq h1]
    rfl
  | .non :: _, _, h | .bl _ :: _, _, h | .str _ :: _, _, h | .tup _ :: _, _, h | .lst _ :: _, _, h | .dic _ :: _, _, h | .clo _ _ :: _, _, h | .obj _ _ :: _, _, h | .scr _ :: _, _, h => by cases h
theorem blsOf_eq : ∀ {ds : List D} {ns : List Bool}, blsOf ds = some ns → ds = ns.map D.bl
  | [], ns, h => by cases h; rfl
  | .bl i :: r, ns, h => by
    obtain ⟨ms, h1, rfl⟩ := Option.map_eq_some_iff.mp (show (blsOf r).map (i :: ·) = some ns from h)
    rw [blsOf_eq h1]
    rfl
  | .non :: _, _, h | .int _ :: _, _, h | .str _ :: _, _, h | .tup _ :: _, _, h | .lst _ :: _, _, h | .dic _ :: _, _, h | .clo _ _ :: _, _, h | .obj _ _ :: _, _, h | .scr _ :: _, _, h => by cases h
theorem reps_ints_eq {Z : Zx} {H : Hp} {O : List Addr} : ∀ {vs : List V} {ns : List Int}, Reps Z H O vs (ns.map D.int) → vs = ns.map V.int
  | _, [], .nil => rfl
  | _, n :: ns, .cons r t => by
    cases r
    rw [reps_ints_eq t]
    rfl
theorem reps_bls_eq {Z : Zx} {H : Hp} {O : List Addr} : ∀ {vs : List V} {ns : List Bool}, Reps Z H O vs (ns.map D.bl) → vs = ns.map V.bl
  | _, [], .nil => rfl
  | _, n :: ns, .cons r t => by
    cases r
    rw [reps_bls_eq t]
    rfl

/-! ### each -/
def lenD : List D → Option D
  | [.tup xs] => some (.int xs.length)
  | [.lst xs] => some (.int xs.length)
  | [.scr ns] => some (.int ns.length)
  | [.str z] => if z.length ≤ sizeLine then some (.int z.length) else none
  | _ => none
theorem cd_len {X : Cx} {L : Lx} : CallD X L (.builtin "len") lenD := by
  refine ⟨_, CallR.or (call_len_seq (X := X)) call_len_str, fun H O vs ds z Q t r hz q => ?_⟩
  unfold lenD at hz
  split at hz
  · cases hz
    obtain ⟨v, rfl, rv⟩ := r.one
    obtain ⟨p, xs, rfl, s1, r1⟩ := rv.tupSq
    refine .inl ⟨p, xs, rfl, .inr s1, ?_⟩
    rw [r1.length]
    exact q _ H (Same.refl H) (.int _)
  · cases hz
    obtain ⟨v, rfl, rv⟩ := r.one
    obtain ⟨p, xs, rfl, s1, n1, r1⟩ := rv.lstH
    refine .inl ⟨p, xs, rfl, .inl (SqL.of s1), ?_⟩
    rw [r1.length]
    exact q _ H (Same.refl H) (.int _)
  · cases hz
    obtain ⟨v, rfl, rv⟩ := r.one
    obtain ⟨p, rfl, s1⟩ := rv.scrSq
    refine .inl ⟨p, _, rfl, .inl s1, ?_⟩
    rw [List.length_map]
    exact q _ H (Same.refl H) (.int _)
  · split at hz
    · rename_i hl
      cases hz
      obtain ⟨v, rfl, rv⟩ := r.one
      cases rv
      exact .inr ⟨_, rfl, hl, q _ H (Same.refl H) (.int _)⟩
    · cases hz
  · cases hz
def fLen : BFn := ⟨"len", "len", lenD, fun _ => cd_len, PySem.boot_len, by decide +kernel, by decide +kernel, by decide +kernel⟩
def absD : List D → Option D
  | [.int i] => some (.int (if i < 0 then -i else i))
  | _ => none
theorem cd_abs {X : Cx} {L : Lx} : CallD X L (.builtin "abs") absD := by
  refine ⟨_, call_abs (X := X), fun H O vs ds z Q t r hz q => ?_⟩
  unfold absD at hz
  split at hz
  · cases hz
    obtain ⟨v, rfl, rv⟩ := r.one
    cases rv
    exact ⟨_, rfl, q _ H (Same.refl H) (.int _)⟩
  · cases hz
def fAbs : BFn := ⟨"abs", "abs", absD, fun _ => cd_abs, by decide +kernel, by decide +kernel, by decide +kernel, by decide +kernel⟩
def maxI : List Int → Option Int := fun ns => ns.max?
def minI : List Int → Option Int := fun ns => ns.min?
def maxD : List D → Option D
  | [.int i, .int j] => some (.int (if j > i then j else i))
  | [.lst ds] => ((intsOf ds).bind maxI).map .int
  | _ => none
def minD : List D → Option D
  | [.int i, .int j] => some (.int (if j < i then j else i))
  | [.lst ds] => ((intsOf ds).bind minI).map .int
  | _ => none
theorem max_is {ns : List Int} {m n : Int} (h : ns.max? = some m) (h1 : n ∈ ns) (h2 : ∀ y ∈ ns, y ≤ n) : n = m := by
  obtain ⟨g1, g2⟩ := List.max?_eq_some_iff.mp h
  exact Int.le_antisymm (g2 n h1) (h2 m g1)
theorem min_is {ns : List Int} {m n : Int} (h : ns.min? = some m) (h1 : n ∈ ns) (h2 : ∀ y ∈ ns, n ≤ y) : n = m := by
  obtain ⟨g1, g2⟩ := List.min?_eq_some_iff.mp h
  exact Int.le_antisymm (h2 m g1) (g2 n h1)
theorem cd_max {X : Cx} {L : Lx} (hc : X.calm = true) : CallD X L (.builtin "max") maxD := by
  refine ⟨_, CallR.or (call_max2 hc) (cr_max hc), fun H O vs ds z Q t r hz q => ?_⟩
  unfold maxD at hz
  split at hz
  · cases hz
    obtain ⟨v, w, rfl, rv, rw'⟩ := r.two
    cases rv; cases rw'
    exact .inl ⟨_, _, rfl, q _ H (Same.refl H) (.int _)⟩
  · obtain ⟨m, hm, rfl⟩ := Option.map_eq_some_iff.mp hz
    obtain ⟨ns, h1, h2⟩ := Option.bind_eq_some_iff.mp hm
    obtain ⟨v, rfl, rv⟩ := r.one
    obtain ⟨p, xs, rfl, s1, n1, r1⟩ := rv.lstH
    rw [intsOf_eq h1] at r1
    rw [reps_ints_eq r1] at s1
    refine .inr ⟨p, ns, rfl, SqL.of s1, ?_, fun n g1 g2 => ?_⟩
    · cases ns with
      | nil => cases h2
      | cons _ _ => simp
    · rw [max_is h2 g1 g2]
      exact q _ H (Same.refl H) (.int _)
  · cases hz
theorem cd_min {X : Cx} {L : Lx} (hc : X.calm = true) : CallD X L (.builtin "min") minD := by
  refine ⟨_, CallR.or (call_min2 hc) (cr_min hc), fun H O vs ds z Q t r hz q => ?_⟩
  unfold minD at hz
  split at hz
  · cases hz
    obtain ⟨v, w, rfl, rv, rw'⟩ := r.two
    cases rv; cases rw'
    exact .inl ⟨_, _, rfl, q _ H (Same.refl H) (.int _)⟩
  · obtain ⟨m, hm, rfl⟩ := Option.map_eq_some_iff.mp hz
    obtain ⟨ns, h1, h2⟩ := Option.bind_eq_some_iff.mp hm
    obtain ⟨v, rfl, rv⟩ := r.one
    obtain ⟨p, xs, rfl, s1, n1, r1⟩ := rv.lstH
    rw [intsOf_eq h1] at r1
    rw [reps_ints_eq r1] at s1
    refine .inr ⟨p, ns, rfl, SqL.of s1, ?_, fun n g1 g2 => ?_⟩
    · cases ns with
      | nil => cases h2
      | cons _ _ => simp
    · rw [min_is h2 g1 g2]
      exact q _ H (Same.refl H) (.int _)
  · cases hz
def fMax : BFn := ⟨"max", "max", maxD, cd_max, by decide +kernel, by decide +kernel, by decide +kernel, by decide +kernel⟩
def fMin : BFn := ⟨"min", "min", minD, cd_min, by decide +kernel, by decide +kernel, by decide +kernel, by decide +kernel⟩
def divmodD : List D → Option D
  | [.int i, .int j] => if 0 < j ∧ j < 1073741824 then some (.tup [.int (i / j), .int (i % j)]) else none
  | _ => none
theorem cd_divmod {X : Cx} {L : Lx} : CallD X L (.builtin "divmod") divmodD := by
  refine ⟨_, call_divmod (X := X), fun H O vs ds z Q t r hz q => ?_⟩
  unfold divmodD at hz
  split at hz
  · split at hz
    · rename_i hc
      cases hz
      obtain ⟨v, w, rfl, rv, rw'⟩ := r.two
      cases rv; cases rw'
      exact ⟨_, _, rfl, hc, fun p hp => q _ _ (same_new hp) (Rep.newT t hp (.cons (.int _) (.cons (.int _) .nil)))⟩
    · cases hz
  · cases hz
def fDivmod : BFn := ⟨"divmod", "divmod", divmodD, fun _ => cd_divmod, by decide +kernel, by decide +kernel, by decide +kernel, by decide +kernel⟩
def allD : List D → Option D
  | [.lst ds] => (blsOf ds).map fun bs => .bl (bs.all id)
  | _ => none
def anyD : List D → Option D
  | [.lst ds] => (blsOf ds).map fun bs => .bl (bs.any id)
  | _ => none
theorem cd_all {X : Cx} {L : Lx} (hc : X.calm = true) : CallD X L (.builtin "all") allD := by
  refine ⟨_, cr_all hc, fun H O vs ds z Q t r hz q => ?_⟩
  unfold allD at hz
  split at hz
  · obtain ⟨bs, h1, rfl⟩ := Option.map_eq_some_iff.mp hz
    obtain ⟨v, rfl, rv⟩ := r.one
    obtain ⟨p, xs, rfl, s1, n1, r1⟩ := rv.lstH
    rw [blsOf_eq h1] at r1
    rw [reps_bls_eq r1] at s1
    exact ⟨p, bs, rfl, SqL.of s1, q _ H (Same.refl H) (.bl _)⟩
  · cases hz
theorem cd_any {X : Cx} {L : Lx} (hc : X.calm = true) : CallD X L (.builtin "any") anyD := by
  refine ⟨_, cr_any hc, fun H O vs ds z Q t r hz q => ?_⟩
  unfold anyD at hz
  split at hz
  · obtain ⟨bs, h1, rfl⟩ := Option.map_eq_some_iff.mp hz
    obtain ⟨v, rfl, rv⟩ := r.one
    obtain ⟨p, xs, rfl, s1, n1, r1⟩ := rv.lstH
    rw [blsOf_eq h1] at r1
    rw [reps_bls_eq r1] at s1
    exact ⟨p, bs, rfl, SqL.of s1, q _ H (Same.refl H) (.bl _)⟩
  · cases hz
def fAll : BFn := ⟨"all", "all", allD, cd_all, by decide +kernel, by decide +kernel, by decide +kernel, by decide +kernel⟩
def fAny : BFn := ⟨"any", "any", anyD, cd_any, by decide +kernel, by decide +kernel, by decide +kernel, by decide +kernel⟩
def sumD : List D → Option D
  | [.lst ds] => (intsOf ds).map fun ns => .int ns.sum
  | _ => none
theorem cd_sum {X : Cx} {L : Lx} (hc : X.calm = true) : CallD X L (.builtin "sum") sumD := by
  refine ⟨_, cr_sum hc, fun H O vs ds z Q t r hz q => ?_⟩
  unfold sumD at hz
  split at hz
  · obtain ⟨ns, h1, rfl⟩ := Option.map_eq_some_iff.mp hz
    obtain ⟨v, rfl, rv⟩ := r.one
    obtain ⟨p, xs, rfl, s1, n1, r1⟩ := rv.lstH
    rw [intsOf_eq h1] at r1
    rw [reps_ints_eq r1] at s1
    exact ⟨p, ns, rfl, SqL.of s1, q _ H (Same.refl H) (.int _)⟩
  · cases hz
def fSum : BFn := ⟨"sum", "sum", sumD, cd_sum, by decide +kernel, by decide +kernel, by decide +kernel, by decide +kernel⟩
def intD : List D → Option D
  | [.int i] => some (.int i)
  | [.bl b] => some (.int (if b then 1 else 0))
  | _ => none
theorem cd_int {X : Cx} {L : Lx} : CallD X L (.type "int") intD := by
  refine ⟨_, call_int1 (X := X), fun H O vs ds z Q t r hz q => ?_⟩
  unfold intD at hz
  split at hz
  · cases hz
    obtain ⟨v, rfl, rv⟩ := r.one
    cases rv
    exact .inl ⟨_, rfl, q _ H (Same.refl H) (.int _)⟩
  · cases hz
    obtain ⟨v, rfl, rv⟩ := r.one
    cases rv
    exact .inr ⟨_, rfl, q _ H (Same.refl H) (.int _)⟩
  · cases hz
def fInt : TFn := ⟨"int", "int", intD, fun _ => cd_int, by decide +kernel, by decide +kernel, by decide +kernel, by decide +kernel⟩
def listD : List D → Option D
  | [.lst ds] => some (.lst ds)
  | [.tup ds] => some (.lst ds)
  | [.scr ns] => some (.lst (ns.map .int))
  | _ => none
theorem cd_list {X : Cx} {L : Lx} : CallD X L (.type "list") listD := by
  refine ⟨_, call_list_of (X := X), fun H O vs ds z Q t r hz q => ?_⟩
  unfold listD at hz
  split at hz
  · cases hz
    obtain ⟨v, rfl, rv⟩ := r.one
    obtain ⟨p, xs, rfl, s1, n1, r1⟩ := rv.lstH
    exact ⟨p, xs, rfl, .inl (SqL.of s1), fun l hl => q _ _ (same_new hl) (Rep.newL t hl r1)⟩
  · cases hz
    obtain ⟨v, rfl, rv⟩ := r.one
    obtain ⟨p, xs, rfl, s1, r1⟩ := rv.tupSq
    exact ⟨p, xs, rfl, .inr s1, fun l hl => q _ _ (same_new hl) (Rep.newL t hl r1)⟩
  · cases hz
    obtain ⟨v, rfl, rv⟩ := r.one
    obtain ⟨p, rfl, s1⟩ := rv.scrSq
    exact ⟨p, _, rfl, .inl s1, fun l hl => q _ _ (same_new hl) (Rep.newL t hl (reps_ints _))⟩
  · cases hz
def fList : TFn := ⟨"list", "list", listD, fun _ => cd_list, by decide +kernel, by decide +kernel, by decide +kernel, by decide +kernel⟩
def tupleD : List D → Option D
  | [.lst ds] => some (.tup ds)
  | [.tup ds] => some (.tup ds)
  | _ => none
theorem cd_tuple {X : Cx} {L : Lx} : CallD X L (.type "tuple") tupleD := by
  refine ⟨_, call_tuple_of (X := X), fun H O vs ds z Q t r hz q => ?_⟩
  unfold tupleD at hz
  split at hz
  · cases hz
    obtain ⟨v, rfl, rv⟩ := r.one
    obtain ⟨p, xs, rfl, s1, n1, r1⟩ := rv.lstH
    exact ⟨p, xs, rfl, .inl ⟨SqL.of s1, fun l hl => q _ _ (same_new hl) (Rep.newT t hl r1)⟩⟩
  · cases hz
    obtain ⟨v, rfl, rv⟩ := r.one
    obtain ⟨p, xs, rfl, s1, r1⟩ := rv.tupSq
    exact ⟨p, xs, rfl, .inr ⟨s1, q _ H (Same.refl H) rv⟩⟩
  · cases hz
def fTuple : TFn := ⟨"tuple", "tuple", tupleD, fun _ => cd_tuple, by decide +kernel, by decide +kernel, by decide +kernel, by decide +kernel⟩

/-! ### isinstance(a, T), T a built-in type -/
def tyOf : D → Option String
  | .non => some "NoneType"
  | .bl _ => some "bool"
  | .int _ => some "int"
  | .str _ => some "str"
  | .tup _ => some "tuple"
  | .lst _ => some "list"
  | .scr _ => some "list"
  | .dic [] => some "dict"
  | _ => none
def isiTys : List String := ["NoneType", "bool", "int", "str", "tuple", "list", "dict"]
def isiB (t u : String) : Bool := t == u || (t == "bool" && u == "int")
theorem kit_all : ∀ t ∈ isiTys, ∀ u ∈ isiTys.tail, kitB t u = some (isiB t u) := by decide +kernel
theorem tyOf_mem {d : D} {t : String} (h : tyOf d = some t) : t ∈ isiTys := by
  unfold tyOf at h
  split at h <;> first | (cases h; decide) | cases h
theorem Rep.tyX {X : Cx} {L : Lx} {H : Hp} {O : List Addr} {v : V} {d : D} {t : String} (r : Rep (zx X L) H O v d) (h : tyOf d = some t) : TyX X.K H v (.type t) := by
  cases r with
  | non => cases h; exact .base .non
  | bl b => cases h; exact .base (.bl b)
  | int i => cases h; exact .base (.int i)
  | str s _ => cases h; exact .base (.str s)
  | tup h1 _ => cases h; exact .base (.tup h1.1)
  | tupK h1 _ =>
    cases h
    rcases h1 with (z | ⟨o, z⟩) | ⟨o, its, n, e1, e2, _⟩
    · cases z
    · cases z
    · exact .kTuple e1 e2
  | lst h1 _ => cases h; exact .base (.lst h1.1)
  | scr h1 => cases h; exact .base (.frz h1.1)
  | scrK h1 =>
    cases h
    rcases h1 with (z | ⟨o, z⟩) | ⟨o, its, n, e1, e2, _⟩
    · cases z
    · cases z
    · exact .kList e1 e2
  | dic0 h1 => cases h; exact .base (.dK h1.1)
  | dicN _ _ => cases h
  | clo _ _ _ _ _ => cases h
def isiD (T : String) : D → Option D := fun d => (tyOf d).map fun t => .bl (isiB t T)
structure TyN where
  y : Str
  T : String
  hT : T ∈ isiTys.tail
  hv : bootBuiltins y = some (.type T)
  hb : y ∈ blts
  hn : y ≠ "__name__"
  hd : (y == ("__debug__" : Str)) = false
def tyInt : TyN := ⟨"int", "int", by decide, by decide +kernel, by decide +kernel, by decide +kernel, by decide +kernel⟩
def tyBool : TyN := ⟨"bool", "bool", by decide, by decide +kernel, by decide +kernel, by decide +kernel, by decide +kernel⟩
def tyStr : TyN := ⟨"str", "str", by decide, by decide +kernel, by decide +kernel, by decide +kernel, by decide +kernel⟩
def tyTuple : TyN := ⟨"tuple", "tuple", by decide, by decide +kernel, by decide +kernel, by decide +kernel, by decide +kernel⟩
def tyList : TyN := ⟨"list", "list", by decide, by decide +kernel, by decide +kernel, by decide +kernel, by decide +kernel⟩
def tyDict : TyN := ⟨"dict", "dict", by decide, by decide +kernel, by decide +kernel, by decide +kernel, by decide +kernel⟩
def isiName : Str := "isinstance"
theorem isi_boot : bootBuiltins isiName = some (.builtin "isinstance") := by decide +kernel
theorem isi_mem : isiName ∈ blts := by decide +kernel
theorem isi_n : isiName ≠ "__name__" := by decide +kernel
theorem isi_d : (isiName == ("__debug__" : Str)) = false := by decide +kernel
def Ex.isi (a : Ex) (T : TyN) : Ex := .plain (fun ρ => (a.den ρ).bind fun d ρ1 => Out.lift (isiD T.T d) ρ1) (fun k e => match e with
  | .Call (.Name x _) [a', .Name y _] [] _ => decide (x = isiName) && k.gl x && notStar a' && a.chk k a' && decide (y = T.y) && k.gl y
  | _ => false) a.need (fun {X L A W lev k} c n e h => by
  split at h
  · simp only [Bool.and_eq_true, decide_eq_true_eq] at h
    obtain ⟨⟨⟨⟨⟨hx, g1⟩, g2⟩, g3⟩, hy⟩, g4⟩ := h
    obtain ⟨c1, _, _⟩ := c.glOk g1
    obtain ⟨c2, _, _⟩ := c.glOk g4
    rw [hx] at c1 ⊢
    rw [hy] at c2 ⊢
    refine PE.weak (pe_callB call_isi c1 (c.blt _ isi_mem) isi_boot (pa_cons (a.ok c n _ g3) (pa_cons (pe_bltn (v := .ty T.T) c2 (c.blt _ T.hb) T.hv rfl T.hn T.hd) pa_nil rfl) (starEach_cons g2)) isi_n isi_d (starEach_cons g2) rfl) fun σ H Q ⟨ρ, O, s, q⟩ => ?_
    refine tS_bind s q fun d ρ1 v H1 O1 e1 s1 r1 hk => ?_
    obtain ⟨z, hz, hk⟩ := post_lift hk
    obtain ⟨t, ht, rfl⟩ := Option.map_eq_some_iff.mp hz
    exact ⟨v, .ty T.T, .type t, .type T.T, isiB t T.T, rfl, .ty _, r1.tyX ht, kit_ty (kit_all t (tyOf_mem ht) T.T T.hT), hk _ H1 O1 e1 s1 (.bl _)⟩
  · cases h) (fun k x h => by split at h <;> first | rfl | cases h)

/-! ### repr(a) == repr(b) -/
def rRepr (X : Cx) : List V → Hp → VK → Prop := fun vs H Q => ∃ v d, vs = [v] ∧ Dp X.K H v d ∧ d.canLay0 = true ∧ d.showable = true ∧ d.depth ≤ 60 ∧ d.shown.length ≤ sizeLine ∧ Q (.str d.shown) H
theorem cr_repr {X : Cx} (hg : X.A.guards = some []) (hu : X.A.units + 64 < cLine) : CallR X (.builtin "repr") (rRepr X) := by
  intro pins s σ H vs us Q I r h
  obtain ⟨v, d, rfl, hd, hl, hs, hdep, hz, q⟩ := h
  obtain ⟨u, rfl, ru⟩ := vals1 r
  cases hd with
  | non => cases ru; exact PySem.P.repr_of_none ⟨.str _, H, I.tok _, ⟨_, rfl⟩, q⟩
  | bl b => cases ru; exact PySem.P.repr_of_bool ⟨.str _, H, I.tok _, ⟨_, rfl⟩, q⟩
  | int i =>
    obtain ⟨t, rfl⟩ := ru
    exact PySem.P.repr_of_int (of_decide_eq_true hs) ⟨.str _, H, I.tok _, ⟨_, rfl⟩, q⟩
  | str x =>
    obtain ⟨t, rfl⟩ := ru
    exact PySem.P.repr_of_str ⟨.str _, H, I.tok _, ⟨_, rfl⟩, q⟩ hz
  | lst h1 h2 =>
    obtain ⟨as, rd⟩ := Dp.reads I _ _ _ (Dp.lst h1 h2) ru
    cases ru
    exact repr_of_reads' rd hs (PyData.noDict_hsm (PyData.hasDict_of_canLay _ hl)) hg (by omega) (fun _ _ e => e) (fun h' u tk hk => ⟨.str _, H, I.kept hk, ⟨_, rfl⟩, q⟩) hz
  | tup h1 h2 =>
    obtain ⟨as, rd⟩ := Dp.reads I _ _ _ (Dp.tup h1 h2) ru
    cases ru
    exact repr_of_reads' rd hs (PyData.noDict_hsm (PyData.hasDict_of_canLay _ hl)) hg (by omega) (fun _ _ e => e) (fun h' u tk hk => ⟨.str _, H, I.kept hk, ⟨_, rfl⟩, q⟩) hz
def showOk (d : D) : Bool := d.data && d.toP.showable && decide (d.toP.depth ≤ 60) && decide (d.toP.shown.length ≤ sizeLine)
def shownD (d : D) : Option Str := if showOk d = true then some d.toP.shown else none
def reprName : Str := "repr"
theorem repr_boot : bootBuiltins reprName = some (.builtin "repr") := by decide +kernel
theorem repr_mem : reprName ∈ blts := by decide +kernel
theorem repr_n : reprName ≠ "__name__" := by decide +kernel
theorem repr_d : (reprName == ("__debug__" : Str)) = false := by decide +kernel
def dRepr (neg : Bool) (a b : Ex) : En → Out Bool := fun ρ => (a.den ρ).bind fun x ρ1 => (Out.lift (shownD x) ρ1).bind fun u ρ1 => (b.den ρ1).bind fun y ρ2 => (Out.lift (shownD y) ρ2).bind fun w ρ2 => .ok (if neg then !decide (u = w) else decide (u = w)) ρ2
def reprChk (neg : Bool) (a b : Ex) (k : Ck) (e : Expr) : Bool := match e with
  | .Compare (.Call (.Name x _) [a'] [] _) [o] [.Call (.Name y _) [b'] [] _] _ => decide (x = reprName) && decide (y = reprName) && k.gl x && k.gl y && notStar a' && notStar b' && a.chk k a' && b.chk k b' && decide (o = if neg then CmpOp.NotEq else CmpOp.Eq)
  | _ => false
theorem Rep.show {X : Cx} {L : Lx} {H : Hp} {O : List Addr} {v : V} {d : D} {u : Str} {Q : VK} (r : Rep (zx X L) H O v d) (h : shownD d = some u) (q : Q (.str u) H) : rRepr X [v] H Q := by
  unfold shownD at h
  split at h
  · rename_i c
    cases h
    unfold showOk at c
    simp only [Bool.and_eq_true, decide_eq_true_eq] at c
    exact ⟨v, d.toP, rfl, r.dp c.1.1.1, r.lay c.1.1.1, c.1.1.2, c.1.2, c.2, q⟩
  · cases h
theorem decide_str {a b : Str} : decide (V.str a = V.str b) = decide (a = b) := by
  by_cases e : a = b
  · subst e; simp
  · rw [decide_eq_false e, decide_eq_false (fun z => e (V.str.inj z))]
section
variable {X : Cx} {L : Lx} {A : An} {W : WX} {lev : Nat} {k : Ck}
theorem s_repr {neg : Bool} {a b : Ex} {σ : L2.St} {H : Hp} {O : List Addr} {ρ : En} {P : Bool → En → Prop} {Q : VK} (s : SR (zx X L) A H O σ ρ) (q : (dRepr neg a b ρ).Post P (ErP (zx X L) A W H O))
    (hq : ∀ t ρ', P t ρ' → ∀ H' O', Ext H O H' O' → SR (zx X L) A H' O' σ ρ' → Q (.bl t) H') :
    tOp (if neg then rNe else rEq) (tCB (rRepr X) (tCons (tS (zx X L) A W a.den) tNil)) (tCB (rRepr X) (tCons (tS (zx X L) A W b.den) tNil)) σ H Q := by
  refine tS_bind s q fun d ρ1 v H1 O1 e1 s1 r1 hk => ?_
  obtain ⟨u, hu, hk⟩ := post_lift (Out.post_bind hk)
  unfold tNil
  refine r1.show hu ?_
  refine tS_bind s1 hk fun e ρ2 w H2 O2 e2 s2 r2 hk2 => ?_
  obtain ⟨z, hz, hk2⟩ := post_lift (Out.post_bind hk2)
  refine r2.show hz ?_
  have h := hq _ ρ2 hk2 H2 O2 (e1.trans e2) s2
  cases neg with
  | true =>
    refine ⟨rfl, ?_⟩
    rw [decide_str]
    exact h
  | false =>
    refine ⟨rfl, ?_⟩
    rw [decide_str]
    exact h
theorem repr_ok {neg : Bool} {a b : Ex} {e : Expr} (c : Cxt X L A W lev k) (n : Has X L lev (a.need.app b.need)) (h : reprChk neg a b k e = true) :
    ∃ x y o p, e = .Compare x [o] [y] p ∧ o = (if neg then CmpOp.NotEq else CmpOp.Eq) ∧ PE X x (tCB (rRepr X) (tCons (tS (zx X L) A W a.den) tNil)) ∧ PE X y (tCB (rRepr X) (tCons (tS (zx X L) A W b.den) tNil)) := by
  unfold reprChk at h
  split at h
  · simp only [Bool.and_eq_true, decide_eq_true_eq] at h
    obtain ⟨⟨⟨⟨⟨⟨⟨⟨hx, hy⟩, g1⟩, g2⟩, g3⟩, g4⟩, g5⟩, g6⟩, ho⟩ := h
    obtain ⟨c1, _, _⟩ := c.glOk g1
    obtain ⟨c2, _, _⟩ := c.glOk g2
    rw [hx] at c1 ⊢
    rw [hy] at c2 ⊢
    exact ⟨_, _, _, _, rfl, ho, pe_callB (cr_repr c.gd c.units) c1 (c.blt _ repr_mem) repr_boot (pa_cons (a.ok c n.left _ g5) pa_nil (starEach_cons g3)) repr_n repr_d (starEach_cons g3) rfl,
      pe_callB (cr_repr c.gd c.units) c2 (c.blt _ repr_mem) repr_boot (pa_cons (b.ok c n.right _ g6) pa_nil (starEach_cons g4)) repr_n repr_d (starEach_cons g4) rfl⟩
  · cases h
theorem op_eqNe {X : Cx} (neg : Bool) : OpR X (compareOp (if neg then CmpOp.NotEq else CmpOp.Eq)) (if neg then rNe else rEq) := by
  cases neg with
  | true => exact op_ne
  | false => exact op_eq
theorem noIn (neg : Bool) (e : Expr) : behindInMarks (if neg then CmpOp.NotEq else CmpOp.Eq) e = false := by
  cases neg with
  | true => exact nomark e
  | false => exact nomark e
end
/-- repr(a) == repr(b), repr(a) != repr(b) -/
def Ex.repr (neg : Bool) (a b : Ex) : Ex where
  den := toD (dRepr neg a b)
  tst := dRepr neg a b
  chk := reprChk neg a b
  need := a.need.app b.need
  ok := fun {X L A W lev k} c n e h => by
    obtain ⟨x, y, o, p, rfl, rfl, h1, h2⟩ := repr_ok c n h
    exact PE.weak (pe_cmpR (op_eqNe neg) h1 h2 (noIn neg _)) fun σ H Q ⟨ρ, O, s, q⟩ => s_repr s (Out.post_bind q) fun t ρ' hp H' O' e' s' => hp _ H' O' e' s' (.bl t)
  okT := fun {X L A W lev k} c n e h => by
    obtain ⟨x, y, o, p, rfl, rfl, h1, h2⟩ := repr_ok c n h
    exact PT.weak (pt_cmpR (op_eqNe neg) h1 h2 (noIn neg _)) fun σ H Q ⟨ρ, O, s, q⟩ => s_repr s q fun t ρ' hp H' O' e' s' => ⟨t, rfl, hp H' O' e' s'⟩
end Ev
set_option Elab.async false
set_option maxRecDepth 100000
set_option maxHeartbeats 4000000
/-! EvH: what a for or a comprehension walks over; targets. -/
namespace Ev
open PySem PySem.Spec PyProof.Rows L2

/-! ### enumerate(tuple) -/
/-- enumerate over the tuple at a: each item in a new pair -/
def IteT (K : PySem.W.Frag) (a : Addr) : It where
  go := fun i H => ∃ (xs : List V) (x : V), SqT K H a xs ∧ xs[i]? = some x
  yld := fun i H v H' => ∃ p x, v = .ref p ∧ H p = none ∧ H' = upd H p (.tup [.int (i : Nat), x]) ∧ ∀ xs, SqT K H a xs → xs[i]? = some x
  stop := fun i H => ∃ xs : List V, SqT K H a xs ∧ xs.length ≤ i
theorem turn_enumT {P : Program} {w : World} {K : PySem.W.Frag} {elts : List Expr} {kk : Nat} {tpos : Pos} (a e it : Addr) :
    Turn P w K (.Tuple elts kk tpos) (IteT K a) [e, it] e (fun i h => (∃ old, IsEnum h e it ((i : Nat) : Int) old) ∧ h.IsTupleIter it a i ∧ e ≠ it ∧ e ≠ a ∧ a ≠ it) where
  mem := List.mem_cons_self
  obj := fun i h st b hb => by
    obtain ⟨⟨old, he⟩, ⟨o, ho, _, hd⟩, _⟩ := st
    rcases List.mem_cons.mp hb with rfl | hb
    · exact ⟨_, he, fun v z => nomatch z⟩
    · obtain rfl := List.mem_singleton.mp hb
      exact ⟨o, ho, fun v z => by rw [hd] at z; cases z⟩
  keep := fun i h h' st k => by
    obtain ⟨⟨old, he⟩, hi, hn⟩ := st
    exact ⟨⟨old, k e (by simp) _ he⟩, hi.at (fun o z => k it (by simp) o z), hn⟩
  item := by
    intro X hP hw hK hc i pins s σ H E I hf st hg
    subst hP hw hK
    obtain ⟨⟨old, he⟩, hit, n1, n2, n3⟩ := st
    obtain ⟨xs, x, hq, hx⟩ := hg
    obtain ⟨its, rv, p, _⟩ := I.tuple hq
    obtain ⟨u, hu, ru⟩ := rv.get hx
    have el : e < s.heap.objs.size := Heap.lt_size he
    have il : it < s.heap.objs.size := by
      obtain ⟨_, q, _⟩ := hit
      exact Heap.lt_size q
    have D := Draws.tuple (prog := X.prog) (w := X.w) (A := X.A.in1) (I.ok.hd hc) it a n3 its.toArray
    have hlt : i < its.toArray.size := by
      obtain ⟨hl, _⟩ := List.getElem?_eq_some_iff.mp hu
      simpa using hl
    refine wpAny_pyNext_enum_itemD D he (And.intro hit p) hlt n1 (by simp [n1, n2]) fun y h' tk hy ho st' hT hsz hk => ?_
    have hyu : y = u := by
      have : its.toArray[i]? = some y := hy
      rw [show its.toArray[i]? = some u by simpa using hu] at this
      exact (Option.some.inj this).symm
    subst hyu
    refine ⟨_, rfl, wpAny_letOwnedTupleGo_enum (s := { s with heap := h', toks := tk + 1 }) ho fun h2 he2 sb => ?_⟩
    have hT2 : h2.get? s.heap.objs.size = some { cls := .type "tuple", data := .seq #[.int i tk, y] } := (sb.2 _ (Nat.ne_of_gt el)).trans hT
    have new : ObjOk X.prog X.w (upd H s.heap.objs.size (.tup [.int (i : Nat), x])) h2 s.heap.objs.size (.tup [.int (i : Nat), x]) :=
      ⟨(by decide : 2 ≤ sizeLine), [.int i tk, y], .cons ⟨_, rfl⟩ (.cons ru .nil), ⟨_, hT2, rfl, _, rfl⟩⟩
    have I1 : Inv X pins σ (upd H s.heap.objs.size (.tup [.int (i : Nat), x])) { s with heap := h2, toks := tk + 1 } :=
      I.turnedNew (ch := [e, it]) (fun b ob nb q => by
        have b1 : b ≠ e := fun z => nb (by simp [z])
        have b2 : b ≠ it := fun z => nb (by simp [z])
        exact (sb.2 b b1).trans (hk b ob b1 b2 q)) hf (Nat.le_refl _) new
    refine ⟨.ref s.heap.objs.size, _, I1, rfl, ⟨_, x, rfl, I.hok.fresh (Nat.le_refl _), rfl, fun ys hys => by rw [I.tuple_inj hys hq]; exact hx⟩, ⟨⟨y, ?_⟩, st'.1.at (fun o q => (sb.2 it (Ne.symm n1)).trans q), n1, n2, n3⟩, fun b hb => ?_⟩
    · rw [show ((i + 1 : Nat) : Int) = (i : Int) + 1 by omega]
      exact he2
    · have hb' : b < s.heap.objs.size := by
        rcases List.mem_cons.mp hb with rfl | hb
        · exact el
        · obtain rfl := List.mem_singleton.mp hb
          exact il
      rw [upd_ne (Nat.ne_of_lt hb')]
      exact (hf b hb).1
  done := by
    intro X hP hw hK hc i pins s σ H E I hf st hg
    subst hP hw hK
    obtain ⟨⟨old, he⟩, hit, n1, n2, n3⟩ := st
    obtain ⟨xs, hq, hx⟩ := hg
    obtain ⟨its, rv, p, _⟩ := I.tuple hq
    obtain ⟨f0, f1, f2, f3, f4, f5⟩ := hf it (by simp)
    have hT : s.TypeIs (.ref e) "enumerate" := ⟨_, he, rfl⟩
    unfold pyNext
    refine wpAny_bind (wpAny_attempt (wpAny_callSpecial?_slot (name := Str.ofString "__next__") hT F.slot_enumerate_next
      (wpAny_call_entry F.slot_enumerate_next hT F.entry_enumerate_next ?_ (F.args_enumerate_next_1 _))))
    show wpAny _ _ (field (.ref e) 2 >>= _) _ _ _
    refine wpAny_bind (wpAny_field he rfl (x := .ref it) rfl ?_)
    have hl := rv.length
    refine wpAny_bind (PySem.wpAny_nextOf_tuple_end (A := X.A.in1) (I.ok.hd hc) hit (show s.heap.IsTuple a its.toArray from p) (by simp; omega) fun h' x hx' hcl => ?_)
    obtain ⟨o, ho, hcc⟩ := hcl
    refine wpAny_bind (wpAny_isInstance (T := "StopIteration") (b := true) ⟨o, ho, hcc⟩ isSubtype_stop (wpAny_pure ?_))
    exact ⟨rfl, I.turned (t' := s.toks) (fun b ob nb q => hx' b ob nb q) f0 f1 f3 f4 f5⟩
  self := fun A i s Q E st h => by
    obtain ⟨⟨_, he⟩, _⟩ := st
    exact wpAny_pyIter_enum he h
theorem meets_enumT (a : Addr) (items : Array Value) (n : Nat) (dct : Option Addr) (sl : Array (Option Value)) :
    Meets (Builtin.«enumerate.__new__» ⟨[.type "enumerate", .ref a], []⟩) (fun _ R s => s.heap.get? a = some { cls := .type "tuple", dict := dct, data := .seq items n, slots := sl } ∧
      R (.ok (.ret (.ref (s.heap.push { cls := .type "tuple_iterator", data := .fields #[.ref a, .int 0 0] }).objs.size)))
        { s with heap := (s.heap.push { cls := .type "tuple_iterator", data := .fields #[.ref a, .int 0 0] }).push { cls := .type "enumerate", data := .fields #[.none, .bool false, .ref s.heap.objs.size, rawInt 0, .none, .none] } }) :=
  .of_wp fun prog w A R s h => by
    obtain ⟨hp, g, d, tk, os⟩ := s
    obtain ⟨ha, h⟩ := h
    have hsub := sub_enumerate
    have hT : Heap.IsTuple (Shared.heap ⟨hp, g, d, tk, os⟩) a items := ⟨_, ha, rfl, n, rfl⟩
    wp_walk using AutoSeq1.wpAny_loadPart' ha
    refine wpAny_stack_any fun st => wpAny_pure ?_
    split
    · rename_i c _ _ _ _ _
      cases (c == Value.type "enumerate")
      · wp_walk using AutoSeq1.wpAny_loadPart' ha, wpAny_pyIter_tuple hT
        exact ⟨_, rfl, h⟩
      · wp_walk using AutoSeq1.wpAny_loadPart' ha, wpAny_pyIter_tuple hT
        exact ⟨_, rfl, h⟩
    · wp_walk using AutoSeq1.wpAny_loadPart' ha, wpAny_pyIter_tuple hT
      exact ⟨_, rfl, h⟩
theorem call_enumT {prog : Program} {w : World} {A : Around} {E : Value → Shared → Prop} {s : Shared} {a : Addr} {items : Array Value} {Q : Value → Shared → Prop} (hL : s.heap.IsTuple a items)
    (h : ∀ h', IsEnum h' (s.heap.objs.size + 1) s.heap.objs.size 0 .none → h'.IsTupleIter s.heap.objs.size a 0 → (∀ b o, s.heap.get? b = some o → h'.get? b = some o) → Q (.ref (s.heap.objs.size + 1)) { s with heap := h' }) :
    wpAny (model prog w) A (call (.type "enumerate") [.ref a]) Q E s := by
  obtain ⟨⟨c, dct, dt, sl⟩, ha, hc, n, hd⟩ := hL
  have hc : c = .type "tuple" := hc
  have hd : dt = .seq items n := hd
  subst hc hd
  refine callType_new F.called_enumerate (by decide) (F.typeCall_enumerate_1 _) (F.newCall_enumerate_1 _) (fun obj => F.args_object_init_2 obj _) F.entry_enumerate_new (meets_enumT a items n dct sl) ⟨ha, ?_⟩
  have hz : (s.heap.push { cls := .type "tuple_iterator", data := .fields #[.ref a, .int 0 0] }).objs.size = s.heap.objs.size + 1 := Heap.size_push ..
  show _ ∧ _
  rw [hz]
  have he := Heap.get?_push_size (s.heap.push { cls := .type "tuple_iterator", data := .fields #[.ref a, .int 0 0] })
    (o := { cls := .type "enumerate", data := .fields #[.none, .bool false, .ref s.heap.objs.size, rawInt 0, .none, .none] }) rfl
  rw [hz] at he
  exact ⟨⟨_, he, rfl⟩, h _ he ⟨_, Heap.get?_push_of_some _ (Heap.get?_push_size _ rfl), rfl, rfl⟩ fun b o q => Heap.get?_push_of_some _ (Heap.get?_push_of_some _ q)⟩
/-- enumerate of a list or of a tuple -/
def iEnumA (K : PySem.W.Frag) (ta : TA) : TI := fun σ H R => ta σ H fun vs H1 => ∃ a xs, vs = [.ref a] ∧ ((SqL K H1 a xs ∧ R (Ite K a) H1) ∨ (SqT K H1 a xs ∧ R (IteT K a) H1))
theorem pi_enumA {X : Cx} {e : Expr} {ta : TA} {p pos tpos : Pos} {elts : List Expr} {kk : Nat} (hg : Gl X "enumerate") (hm : X.mg "enumerate" = none) (ha : PA X [e] ta) (hs : starEach [e] X.env = [(false, eval e X.env)]) :
    PI X (.Tuple elts kk tpos) (.Call (.Name "enumerate" p) [e] [] pos) (iEnumA X.K ta) := by
  refine ⟨fun pins s σ H R I hw => Call_ (ld_blt I hg hm boot_enumerate (PyProof.Rows.callWith_type1 (thn (ha.run pos pins s σ H _ I hw) fun us s1 ⟨vs, H1, I1, r1, q1⟩ => ?_) hs rfl))⟩
  obtain ⟨a, xs, ex, q1⟩ := q1
  subst ex
  cases r1 with
  | cons r rr =>
    cases rr
    cases r
    have fresh : ∀ b ∈ [s1.heap.objs.size + 1, s1.heap.objs.size], FpOk X pins H1 b := fun b hb => by
      have hle : s1.heap.objs.size ≤ b := by
        rcases List.mem_cons.mp hb with rfl | hb
        · exact Nat.le_add_right _ _
        · obtain rfl := List.mem_singleton.mp hb
          exact Nat.le_refl _
      exact I1.fpOk hle (I1.hok.fresh hle)
    rcases q1 with ⟨hq, q⟩ | ⟨hq, q⟩
    · obtain ⟨its, rv, p1, _⟩ := I1.list hq
      refine call_enumerate_list p1.isList fun h' he hit _ hk => wpAny_pyIter_enum he ?_
      exact ⟨s1.heap.objs.size + 1, [s1.heap.objs.size + 1, s1.heap.objs.size], _, _, H1, rfl, I1.kept (t' := s1.toks) hk, turn_enum a _ s1.heap.objs.size, ⟨⟨.none, he⟩, hit, Nat.succ_ne_self _⟩, fresh, q⟩
    · obtain ⟨its, rv, p1, _⟩ := I1.tuple hq
      have hal : a < s1.heap.objs.size := by
        obtain ⟨_, q2, _⟩ := id p1
        exact Heap.lt_size q2
      refine call_enumT (show s1.heap.IsTuple a its.toArray from p1) fun h' he hit hk => wpAny_pyIter_enum he ?_
      exact ⟨s1.heap.objs.size + 1, [s1.heap.objs.size + 1, s1.heap.objs.size], _, _, H1, rfl, I1.kept (t' := s1.toks) hk, turn_enumT a _ s1.heap.objs.size, ⟨⟨.none, he⟩, hit, Nat.succ_ne_self _, Nat.ne_of_gt (Nat.lt_succ_of_lt hal), Nat.ne_of_lt hal⟩, fresh, q⟩

/-! ### a list, a tuple or a text, whichever it is -/
def iAny (K : PySem.W.Frag) (te : TE) : TI := fun σ H R => te σ H fun v H1 =>
  (∃ a xs, v = .ref a ∧ SqL K H1 a xs ∧ R (Itl K a) H1) ∨ (∃ a xs, v = .ref a ∧ SqT K H1 a xs ∧ R (Itt K a) H1) ∨ ∃ z, v = .str z ∧ R (Its z) H1
theorem pi_any {X : Cx} {tg e : Expr} {te : TE} (he : PE X e te) : PI X tg e (iAny X.K te) := by
  refine ⟨fun pins s σ H R I hw => thn (he.run pins s σ H _ I hw) fun u s1 ⟨v, H1, I1, r1, q1⟩ => ?_⟩
  rcases q1 with ⟨a, xs, rfl, hq, q⟩ | ⟨a, xs, rfl, hq, q⟩ | ⟨z, rfl, q⟩
  · cases r1
    obtain ⟨its, rv, p, _⟩ := I1.list hq
    exact wpAny_pyIter_list p.isList (pi_one (tk := s1.toks) I1 _ (turn_list a _) ⟨_, Heap.get?_push_size _ rfl, rfl, rfl⟩ q)
  · cases r1
    obtain ⟨its, rv, p, _⟩ := I1.tuple hq
    exact wpAny_pyIter_tuple (show s1.heap.IsTuple a its.toArray from p) (pi_one (tk := s1.toks) I1 _ (turn_tuple a _) ⟨_, Heap.get?_push_size _ rfl, rfl, rfl⟩ q)
  · obtain ⟨t, rfl⟩ := r1
    by_cases hz : z.cps.all (· < 128) = true
    · exact wpAny_pyIter_ascii hz (pi_one (tk := s1.toks) I1 _ (turn_str _ z t "str_ascii_iterator" (.inl rfl)) ⟨_, Heap.get?_push_size _ rfl, rfl, rfl⟩ q)
    · exact wpAny_pyIter_wide (by simpa using hz) (pi_one (tk := s1.toks) I1 _ (turn_str _ z t "str_iterator" (.inr rfl)) ⟨_, Heap.get?_push_size _ rfl, rfl, rfl⟩ q)

/-! ### the reading of a source: its items -/
/-- while what stood stands, it gives ds, one after another -/
def Wk (Z : Zx) (J : It) (ds : List D) (H : Hp) (O : List Addr) : Prop := ∀ H2 O2, Ext H O H2 O2 → (∀ b ∈ O2, Trk H2 b) →
  (∀ i, i < ds.length → J.go i H2) ∧ J.stop ds.length H2 ∧ ∀ i v H3 d, ds[i]? = some d → J.yld i H2 v H3 → Same H2 H3 ∧ Rep Z H3 O2 v d
def tI (Z : Zx) (A : An) (W : WX) (f : En → Out (List D)) : TI := fun σ H R => ∃ ρ O, SR Z A H O σ ρ ∧ (f ρ).Post (fun ds ρ' => ∀ J H' O', Ext H O H' O' → SR Z A H' O' σ ρ' → Wk Z J ds H' O' → R J H') (ErP Z A W H O)
theorem PI.weak {X : Cx} {tg e : Expr} {t t' : TI} (h : PI X tg e t) (w : ∀ σ H R, t' σ H R → t σ H R) : PI X tg e t' := ⟨fun pins s σ H R I q => h.run pins s σ H R I (w σ H R q)⟩
structure Sr where
  den : En → Out (List D)
  chk : Ck → Expr → Expr → Bool
  need : Need
  ok : ∀ {X : Cx} {L : Lx} {A : An} {W : WX} {lev : Nat} {k : Ck}, Cxt X L A W lev k → Has X L lev need → ∀ tg x, chk k tg x = true → PI X tg x (tI (zx X L) A W den)
  fd : ∀ k tg x, chk k tg x = true → notSet x = true
theorem fold_of {x : Expr} (h : notSet x = true) (env : PySem.Env) (v : Value) : foldedSetIterable x env v = pure v := by
  cases x <;> first | rfl | cases h
section
variable {X : Cx} {L : Lx} {H : Hp} {O : List Addr}
theorem wk_list {a : V} {ds : List D} {p : Addr} (e : a = .ref p) (r : Rep (zx X L) H O a (.lst ds)) : Wk (zx X L) (Itl X.K p) ds H O := fun H2 O2 ex _ => by
  subst e
  obtain ⟨q, xs, e, h1, h2, rs⟩ := (r.ext ex).lstH
  cases e
  refine ⟨fun i hi => ⟨xs, xs[i]'(by rw [rs.length]; exact hi), SqL.of h1, by simp [rs.length, hi]⟩, ⟨xs, SqL.of h1, by rw [rs.length]; exact Nat.le_refl _⟩, fun i v H3 d hd y => ?_⟩
  obtain ⟨rfl, y⟩ := y
  obtain ⟨w, hw, rw'⟩ := rs.getD hd
  have := y xs (SqL.of h1)
  rw [hw] at this
  cases this
  exact ⟨Same.refl _, rw'⟩
theorem wk_scr {a : V} {ns : List Int} {p : Addr} (e : a = .ref p) (r : Rep (zx X L) H O a (.scr ns)) : Wk (zx X L) (Itl X.K p) (ns.map D.int) H O := fun H2 O2 ex _ => by
  subst e
  obtain ⟨q, e, h1⟩ := (r.ext ex).scrSq
  cases e
  refine ⟨fun i hi => ⟨_, (ns.map V.int)[i]'(by simpa using hi), h1, by simp [show i < ns.length by simpa using hi]⟩, ⟨_, h1, by simp⟩, fun i v H3 d hd y => ?_⟩
  obtain ⟨rfl, y⟩ := y
  have y := y _ h1
  rw [List.getElem?_map] at hd y
  obtain ⟨n, hn, rfl⟩ := Option.map_eq_some_iff.mp hd
  rw [hn] at y
  cases y
  exact ⟨Same.refl _, .int n⟩
theorem wk_tup {a : V} {ds : List D} {p : Addr} (e : a = .ref p) (r : Rep (zx X L) H O a (.tup ds)) : Wk (zx X L) (Itt X.K p) ds H O := fun H2 O2 ex _ => by
  subst e
  obtain ⟨q, xs, e, h1, rs⟩ := (r.ext ex).tupSq
  cases e
  refine ⟨fun i hi => ⟨xs, xs[i]'(by rw [rs.length]; exact hi), h1, by simp [rs.length, hi]⟩, ⟨xs, h1, by rw [rs.length]; exact Nat.le_refl _⟩, fun i v H3 d hd y => ?_⟩
  obtain ⟨rfl, y⟩ := y
  obtain ⟨w, hw, rw'⟩ := rs.getD hd
  have := y xs h1
  rw [hw] at this
  cases this
  exact ⟨Same.refl _, rw'⟩
/-- the signs of a text -/
def signsOf (z : Str) : List D := z.cps.toList.map fun c => .str ⟨#[c]⟩
theorem strOk_sign {z : Str} (hz : PyData.strOk z = true) {i c : Nat} (h : z.cps[i]? = some c) : PyData.strOk ⟨#[c]⟩ = true := by
  have hm : c ∈ z.cps.toList := List.mem_of_getElem? (by rw [Array.getElem?_toList]; exact h)
  unfold PyData.strOk at hz ⊢
  rw [← Array.all_toList, List.all_eq_true] at hz
  have := hz c hm
  simp [this] at *
theorem wk_str {z : Str} (h : PyData.strOk z = true) : Wk (zx X L) (Its z) (signsOf z) H O := fun H2 O2 _ _ => by
  have hl : (signsOf z).length = z.cps.size := by simp [signsOf]
  refine ⟨fun i hi => by rw [hl] at hi; exact hi, by rw [hl]; exact Nat.le_refl _, fun i v H3 d hd y => ?_⟩
  obtain ⟨rfl, c, hc, rfl⟩ := y
  have hd' : d = .str ⟨#[c]⟩ := by
    unfold signsOf at hd
    rw [List.getElem?_map, Array.getElem?_toList, hc] at hd
    exact (Option.some.inj hd).symm
  subst hd'
  exact ⟨Same.refl _, .str _ (strOk_sign h hc)⟩
end
/-- what a value gives when it is walked -/
def itemsOf : D → Option (List D)
  | .tup ds => some ds
  | .lst ds => some ds
  | .scr ns => some (ns.map D.int)
  | .str z => some (signsOf z)
  | _ => none
def Sr.val (e : Ex) : Sr where
  den := fun ρ => (e.den ρ).bind fun d ρ1 => Out.lift (itemsOf d) ρ1
  chk := fun k _ x => e.chk k x && notSet x
  need := e.need
  ok := fun {X L A W lev k} c n tg x h => by
    rw [Bool.and_eq_true] at h
    refine PI.weak (pi_any (e.ok c n x h.1)) fun σ H R ⟨ρ, O, s, q⟩ => ?_
    refine tS_bind s q fun d ρ1 v H1 O1 e1 s1 r1 hk => ?_
    obtain ⟨ds, hds, hk⟩ := post_lift hk
    unfold itemsOf at hds
    split at hds
    · cases hds
      obtain ⟨p, xs, e, h1, _⟩ := r1.tupSq
      exact .inr (.inl ⟨p, xs, e, h1, hk _ _ O1 e1 s1 (wk_tup e r1)⟩)
    · cases hds
      obtain ⟨p, xs, e, h1, _⟩ := r1.lstH
      exact .inl ⟨p, xs, e, SqL.of h1, hk _ _ O1 e1 s1 (wk_list e r1)⟩
    · cases hds
      obtain ⟨p, e, h1⟩ := r1.scrSq
      exact .inl ⟨p, _, e, h1, hk _ _ O1 e1 s1 (wk_scr e r1)⟩
    · rename_i z
      cases hds
      cases r1 with
      | str _ hz => exact .inr (.inr ⟨z, rfl, hk _ _ O1 e1 s1 (wk_str hz)⟩)
    · cases hds
  fd := fun k tg x h => by rw [Bool.and_eq_true] at h; exact h.2
/-! ### range -/
def upFrom (i c : Int) (n : Nat) : List D := (List.range n).map fun (k : Nat) => .int (i + (k : Nat) * c)
def inRng (i : Int) : Bool := decide (-(2 ^ 62) ≤ i) && decide (i < 2 ^ 62)
def rngD : List D → Option (List D)
  | [.int j] => if inRng j = true then some (upFrom 0 1 j.toNat) else none
  | [.int i, .int j] => if (inRng i && inRng j) = true then some (upFrom i 1 (j - i).toNat) else none
  | [.int i, .int j, .int c] => if decide (c ≠ 0 ∧ c.natAbs < 1073741824 ∧ Builtin.Range.small i j c = true ∧ 0 ≤ Builtin.Range.rangeSize i j c) = true then some (upFrom i c (Builtin.Range.rangeSize i j c).toNat) else none
  | _ => none
theorem upFrom_get {i c : Int} {n k : Nat} {d : D} (h : (upFrom i c n)[k]? = some d) : k < n ∧ d = .int (i + (k : Nat) * c) := by
  unfold upFrom at h
  rw [List.getElem?_map] at h
  obtain ⟨m, hm, rfl⟩ := Option.map_eq_some_iff.mp h
  rw [List.getElem?_eq_some_iff] at hm
  obtain ⟨h1, h2⟩ := hm
  rw [List.getElem_range] at h2
  subst h2
  exact ⟨by simpa using h1, rfl⟩
theorem upFrom_length {i c : Int} {n : Nat} : (upFrom i c n).length = n := by simp [upFrom]
section
variable {X : Cx} {L : Lx} {H : Hp} {O : List Addr}
theorem wk_range {i : Int} {n : Nat} : Wk (zx X L) (Itr i n) (upFrom i 1 n) H O := fun H2 O2 _ _ => by
  refine ⟨fun k hk => by rw [upFrom_length] at hk; exact hk, by rw [upFrom_length]; exact Nat.le_refl _, fun k v H3 d hd y => ?_⟩
  obtain ⟨rfl, rfl⟩ := y
  obtain ⟨_, rfl⟩ := upFrom_get hd
  refine ⟨Same.refl _, ?_⟩
  rw [Int.mul_one]
  exact .int _
theorem wk_rangeC {i c : Int} {n : Nat} : Wk (zx X L) (Itc i c n) (upFrom i c n) H O := fun H2 O2 _ _ => by
  refine ⟨fun k hk => by rw [upFrom_length] at hk; exact hk, by rw [upFrom_length]; exact Nat.le_refl _, fun k v H3 d hd y => ?_⟩
  obtain ⟨rfl, rfl⟩ := y
  obtain ⟨_, rfl⟩ := upFrom_get hd
  exact ⟨Same.refl _, .int _⟩
theorem Reps.three {vs : List V} {d e f : D} (r : Reps (zx X L) H O vs [d, e, f]) : ∃ v w u, vs = [v, w, u] ∧ Rep (zx X L) H O v d ∧ Rep (zx X L) H O w e ∧ Rep (zx X L) H O u f := by
  cases r with
  | cons r t => cases t with
    | cons r2 t => cases t with
      | cons r3 t => cases t; exact ⟨_, _, _, rfl, r, r2, r3⟩
end
theorem inRng_iff {i : Int} (h : inRng i = true) : -(2 ^ 62) ≤ i ∧ i < 2 ^ 62 := by
  unfold inRng at h
  rw [Bool.and_eq_true, decide_eq_true_eq, decide_eq_true_eq] at h
  exact h
theorem all_notStar {es : List Expr} {env : PySem.Env} (h : es.all notStar = true) : starEach es env = es.map fun e => (false, eval e env) := by
  induction es with
  | nil => rfl
  | cons e es ih =>
    rw [List.all_cons, Bool.and_eq_true] at h
    rw [starEach_cons h.1, ih h.2]
    rfl
theorem range_blt : ("range" : Str) ∈ blts := by decide +kernel
theorem enum_blt : ("enumerate" : Str) ∈ blts := by decide +kernel
theorem zip_blt : ("zip" : Str) ∈ blts := by decide +kernel
def rngHead (y : Str) (k : Ck) : Bool := decide (y = "range") && k.gl y
/-- range(j) -/
def Sr.range1 (as : As) : Sr where
  den := fun ρ => (as.den ρ).bind fun ds ρ1 => Out.lift (match ds with | [.int j] => rngD [.int j] | _ => none) ρ1
  chk := fun k _ x => match x with | .Call (.Name y _) [a] [] _ => rngHead y k && notStar a && as.chk k [a] | _ => false
  need := as.need
  ok := fun {X L A W lev k} c n tg x h => by
    split at h
    · simp only [rngHead, Bool.and_eq_true, decide_eq_true_eq] at h
      obtain ⟨⟨⟨rfl, h1⟩, h2⟩, h4⟩ := h
      obtain ⟨c1, _, _⟩ := c.glOk h1
      refine PI.weak (pi_range1 c1 (c.blt _ range_blt) (as.ok c n _ h4) (starEach_cons h2)) fun σ H R ⟨ρ, O, s, q⟩ => ?_
      refine tA_bind s q fun ds ρ1 vs H1 O1 e1 s1 r1 hk => ?_
      obtain ⟨out, ho, hk⟩ := post_lift hk
      split at ho
      · rename_i j
        have ho : (if inRng j = true then some (upFrom 0 1 j.toNat) else none) = some out := ho
        split at ho
        · rename_i hr
          cases ho
          obtain ⟨v, rfl, rv⟩ := r1.one
          cases rv
          obtain ⟨g1, g2⟩ := inRng_iff hr
          exact ⟨_, rfl, g1, g2, hk _ _ O1 e1 s1 wk_range⟩
        · cases ho
      · cases ho
    · cases h
  fd := fun k tg x h => by split at h <;> first | rfl | cases h
/-- range(i, j) -/
def Sr.range2 (as : As) : Sr where
  den := fun ρ => (as.den ρ).bind fun ds ρ1 => Out.lift (match ds with | [.int i, .int j] => rngD [.int i, .int j] | _ => none) ρ1
  chk := fun k _ x => match x with | .Call (.Name y _) [a, b] [] _ => rngHead y k && notStar a && notStar b && as.chk k [a, b] | _ => false
  need := as.need
  ok := fun {X L A W lev k} c n tg x h => by
    split at h
    · simp only [rngHead, Bool.and_eq_true, decide_eq_true_eq] at h
      obtain ⟨⟨⟨⟨rfl, h1⟩, h2⟩, h3⟩, h4⟩ := h
      obtain ⟨c1, _, _⟩ := c.glOk h1
      refine PI.weak (pi_range2 c1 (c.blt _ range_blt) (as.ok c n _ h4) (by rw [starEach_cons h2, starEach_cons h3]; rfl) (starEach_cons h3)) fun σ H R ⟨ρ, O, s, q⟩ => ?_
      refine tA_bind s q fun ds ρ1 vs H1 O1 e1 s1 r1 hk => ?_
      obtain ⟨out, ho, hk⟩ := post_lift hk
      split at ho
      · rename_i i j
        have ho : (if (inRng i && inRng j) = true then some (upFrom i 1 (j - i).toNat) else none) = some out := ho
        split at ho
        · rename_i hr
          cases ho
          obtain ⟨v, w, rfl, rv, rw'⟩ := r1.two
          cases rv
          cases rw'
          rw [Bool.and_eq_true] at hr
          obtain ⟨g1, g2⟩ := inRng_iff hr.1
          obtain ⟨g3, g4⟩ := inRng_iff hr.2
          exact ⟨_, _, rfl, ⟨g1, g2, g3, g4⟩, hk _ _ O1 e1 s1 wk_range⟩
        · cases ho
      · cases ho
    · cases h
  fd := fun k tg x h => by split at h <;> first | rfl | cases h
def rng3 (i j c : Int) : Option (List D) := if decide (c ≠ 0 ∧ c.natAbs < 1073741824 ∧ Builtin.Range.small i j c = true ∧ 0 ≤ Builtin.Range.rangeSize i j c) = true then some (upFrom i c (Builtin.Range.rangeSize i j c).toNat) else none
/-- range(i, j, c) -/
def Sr.range3 (as : As) : Sr where
  den := fun ρ => (as.den ρ).bind fun ds ρ1 => Out.lift (match ds with | [.int i, .int j, .int c] => rng3 i j c | _ => none) ρ1
  chk := fun k _ x => match x with | .Call (.Name y _) [a, b, d] [] _ => rngHead y k && notStar a && [b, d].all notStar && as.chk k [a, b, d] | _ => false
  need := as.need
  ok := fun {X L A W lev k} c n tg x h => by
    split at h
    · simp only [rngHead, Bool.and_eq_true, decide_eq_true_eq] at h
      obtain ⟨⟨⟨⟨rfl, h1⟩, h2⟩, h3⟩, h4⟩ := h
      obtain ⟨c1, _, _⟩ := c.glOk h1
      refine PI.weak (pi_range3 c1 (c.blt _ range_blt) (as.ok c n _ h4) (starEach_cons h2) (noStars h3)) fun σ H R ⟨ρ, O, s, q⟩ => ?_
      refine tA_bind s q fun ds ρ1 vs H1 O1 e1 s1 r1 hk => ?_
      obtain ⟨out, ho, hk⟩ := post_lift hk
      split at ho
      · unfold rng3 at ho
        split at ho
        · rename_i hr
          cases ho
          obtain ⟨v, w, u, rfl, rv, rw', ru⟩ := r1.three
          cases rv
          cases rw'
          cases ru
          obtain ⟨g1, g2, g3, g4⟩ := of_decide_eq_true hr
          exact ⟨_, _, _, _, rfl, ⟨g1, g2, g3, (Int.toNat_of_nonneg g4).symm⟩, hk _ _ O1 e1 s1 wk_rangeC⟩
        · cases ho
      · cases ho
    · cases h
  fd := fun k tg x h => by split at h <;> first | rfl | cases h
/-! ### enumerate, zip: pairs -/
def isTup : Expr → Bool
  | .Tuple _ _ _ => true
  | _ => false
def pairUp (i : Nat) : List D → List D
  | [] => []
  | d :: ds => .tup [.int (i : Nat), d] :: pairUp (i + 1) ds
theorem pairUp_length : ∀ (ds : List D) (i : Nat), (pairUp i ds).length = ds.length
  | [], _ => rfl
  | d :: ds, i => by simp [pairUp, pairUp_length ds]
theorem pairUp_get : ∀ (ds : List D) (i k : Nat), (pairUp i ds)[k]? = (ds[k]?).map fun d => .tup [.int ((i + k : Nat)), d]
  | [], i, k => by simp [pairUp]
  | d :: ds, i, 0 => by simp [pairUp]
  | d :: ds, i, k + 1 => by
    simp only [pairUp, List.getElem?_cons_succ, pairUp_get ds (i + 1) k]
    congr 2
    funext d
    rw [show i + 1 + k = i + (k + 1) by omega]
def zipD : List D → List D → List D
  | x :: xs, y :: ys => .tup [x, y] :: zipD xs ys
  | _, _ => []
theorem zipD_length : ∀ xs ys : List D, (zipD xs ys).length = min xs.length ys.length
  | [], _ => by simp [zipD]
  | _ :: _, [] => by simp [zipD]
  | x :: xs, y :: ys => by simp [zipD, zipD_length xs ys] <;> omega
theorem zipD_get : ∀ (xs ys : List D) (i : Nat) (d : D), (zipD xs ys)[i]? = some d → ∃ x y, xs[i]? = some x ∧ ys[i]? = some y ∧ d = .tup [x, y]
  | [], _, i, d, h => by simp [zipD] at h
  | _ :: _, [], i, d, h => by simp [zipD] at h
  | x :: xs, y :: ys, 0, d, h => by simp [zipD] at h; exact ⟨x, y, rfl, rfl, h.symm⟩
  | x :: xs, y :: ys, i + 1, d, h => by
    simp only [zipD, List.getElem?_cons_succ] at h ⊢
    exact zipD_get xs ys i d h
section
variable {X : Cx} {L : Lx} {H : Hp} {O : List Addr}
theorem wk_enumL {a : V} {ds : List D} {p : Addr} (e : a = .ref p) (r : Rep (zx X L) H O a (.lst ds)) : Wk (zx X L) (Ite X.K p) (pairUp 0 ds) H O := fun H2 O2 ex tr => by
  subst e
  obtain ⟨q, xs, e, h1, h2, rs⟩ := (r.ext ex).lstH
  cases e
  rw [pairUp_length]
  refine ⟨fun i hi => ⟨xs, xs[i]'(by rw [rs.length]; exact hi), SqL.of h1, by simp [rs.length, hi]⟩, ⟨xs, SqL.of h1, by rw [rs.length]; exact Nat.le_refl _⟩, fun i v H3 d hd y => ?_⟩
  rw [pairUp_get] at hd
  obtain ⟨d0, hd0, rfl⟩ := Option.map_eq_some_iff.mp hd
  obtain ⟨T, x, rfl, hT, rfl, y⟩ := y
  obtain ⟨w, hw, rw'⟩ := rs.getD hd0
  have y := y xs (SqL.of h1)
  rw [hw] at y
  cases y
  rw [Nat.zero_add]
  exact ⟨same_new hT, Rep.newT tr hT (.cons (.int _) (.cons rw' .nil))⟩
theorem wk_enumT {a : V} {ds : List D} {p : Addr} (e : a = .ref p) (r : Rep (zx X L) H O a (.tup ds)) : Wk (zx X L) (IteT X.K p) (pairUp 0 ds) H O := fun H2 O2 ex tr => by
  subst e
  obtain ⟨q, xs, e, h1, rs⟩ := (r.ext ex).tupSq
  cases e
  rw [pairUp_length]
  refine ⟨fun i hi => ⟨xs, xs[i]'(by rw [rs.length]; exact hi), h1, by simp [rs.length, hi]⟩, ⟨xs, h1, by rw [rs.length]; exact Nat.le_refl _⟩, fun i v H3 d hd y => ?_⟩
  rw [pairUp_get] at hd
  obtain ⟨d0, hd0, rfl⟩ := Option.map_eq_some_iff.mp hd
  obtain ⟨T, x, rfl, hT, rfl, y⟩ := y
  obtain ⟨w, hw, rw'⟩ := rs.getD hd0
  have y := y xs h1
  rw [hw] at y
  cases y
  rw [Nat.zero_add]
  exact ⟨same_new hT, Rep.newT tr hT (.cons (.int _) (.cons rw' .nil))⟩
theorem wk_zipL {a b : V} {ds es : List D} {p q : Addr} (e : a = .ref p) (e' : b = .ref q) (r : Rep (zx X L) H O a (.lst ds)) (r' : Rep (zx X L) H O b (.lst es)) : Wk (zx X L) (Itz X.K p q) (zipD ds es) H O := fun H2 O2 ex tr => by
  subst e e'
  obtain ⟨_, xs, e, h1, h2, rs⟩ := (r.ext ex).lstH
  cases e
  obtain ⟨_, ys, e, g1, g2, gs⟩ := (r'.ext ex).lstH
  cases e
  have l1 := rs.length
  have l2 := gs.length
  rw [zipD_length]
  refine ⟨fun i hi => ?_, ⟨xs, ys, SqL.of h1, SqL.of g1, by omega⟩, fun i v H3 d hd y => ?_⟩
  · have i1 : i < xs.length := by omega
    have i2 : i < ys.length := by omega
    exact ⟨xs, ys, xs[i], ys[i], SqL.of h1, SqL.of g1, by simp [i1], by simp [i2]⟩
  · obtain ⟨x, z, hx, hz, rfl⟩ := zipD_get _ _ _ _ hd
    obtain ⟨T, u, w, rfl, hT, rfl, y1, y2⟩ := y
    obtain ⟨u', hu, ru⟩ := rs.getD hx
    obtain ⟨w', hw, rw'⟩ := gs.getD hz
    have y1 := y1 xs (SqL.of h1)
    rw [hu] at y1
    cases y1
    have y2 := y2 ys (SqL.of g1)
    rw [hw] at y2
    cases y2
    exact ⟨same_new hT, Rep.newT tr hT (.cons ru (.cons rw' .nil))⟩
theorem wk_zipT {a b : V} {ds es : List D} {p q : Addr} (e : a = .ref p) (e' : b = .ref q) (r : Rep (zx X L) H O a (.tup ds)) (r' : Rep (zx X L) H O b (.tup es)) : Wk (zx X L) (RZ.ItzT X.K p q) (zipD ds es) H O := fun H2 O2 ex tr => by
  subst e e'
  obtain ⟨_, xs, e, h1, rs⟩ := (r.ext ex).tupSq
  cases e
  obtain ⟨_, ys, e, g1, gs⟩ := (r'.ext ex).tupSq
  cases e
  have l1 := rs.length
  have l2 := gs.length
  rw [zipD_length]
  refine ⟨fun i hi => ?_, ⟨xs, ys, h1, g1, by omega⟩, fun i v H3 d hd y => ?_⟩
  · have i1 : i < xs.length := by omega
    have i2 : i < ys.length := by omega
    exact ⟨xs, ys, xs[i], ys[i], h1, g1, by simp [i1], by simp [i2]⟩
  · obtain ⟨x, z, hx, hz, rfl⟩ := zipD_get _ _ _ _ hd
    obtain ⟨T, u, w, rfl, hT, rfl, y1, y2⟩ := y
    obtain ⟨u', hu, ru⟩ := rs.getD hx
    obtain ⟨w', hw, rw'⟩ := gs.getD hz
    have y1 := y1 xs h1
    rw [hu] at y1
    cases y1
    have y2 := y2 ys g1
    rw [hw] at y2
    cases y2
    exact ⟨same_new hT, Rep.newT tr hT (.cons ru (.cons rw' .nil))⟩
end
def enumD : List D → Option (List D)
  | [.lst ds] => some (pairUp 0 ds)
  | [.tup ds] => some (pairUp 0 ds)
  | _ => none
/-- enumerate(..) of a list or of a tuple -/
def Sr.enum (as : As) : Sr where
  den := fun ρ => (as.den ρ).bind fun ds ρ1 => Out.lift (enumD ds) ρ1
  chk := fun k tg x => match x with | .Call (.Name y _) [a] [] _ => decide (y = "enumerate") && k.gl y && notStar a && isTup tg && as.chk k [a] | _ => false
  need := as.need
  ok := fun {X L A W lev k} c n tg x h => by
    split at h
    · simp only [Bool.and_eq_true, decide_eq_true_eq] at h
      obtain ⟨⟨⟨⟨rfl, h1⟩, h2⟩, h3⟩, h4⟩ := h
      obtain ⟨c1, _, _⟩ := c.glOk h1
      cases tg with
      | Tuple elts kk tpos =>
        refine PI.weak (pi_enumA c1 (c.blt _ enum_blt) (as.ok c n _ h4) (starEach_cons h2)) fun σ H R ⟨ρ, O, s, q⟩ => ?_
        refine tA_bind s q fun ds ρ1 vs H1 O1 e1 s1 r1 hk => ?_
        obtain ⟨out, ho, hk⟩ := post_lift hk
        unfold enumD at ho
        split at ho
        · cases ho
          obtain ⟨v, rfl, rv⟩ := r1.one
          obtain ⟨p, xs, rfl, g1, _⟩ := rv.lstH
          exact ⟨p, xs, rfl, .inl ⟨SqL.of g1, hk _ _ O1 e1 s1 (wk_enumL rfl rv)⟩⟩
        · cases ho
          obtain ⟨v, rfl, rv⟩ := r1.one
          obtain ⟨p, xs, rfl, g1, _⟩ := rv.tupSq
          exact ⟨p, xs, rfl, .inr ⟨g1, hk _ _ O1 e1 s1 (wk_enumT rfl rv)⟩⟩
        · cases ho
      | _ => cases h3
    · cases h
  fd := fun k tg x h => by split at h <;> first | rfl | cases h
def zipsD : List D → Option (List D)
  | [.lst ds, .lst es] => some (zipD ds es)
  | [.tup ds, .tup es] => some (zipD ds es)
  | _ => none
/-- zip(..) of two lists or of two tuples -/
def Sr.zip (as : As) : Sr where
  den := fun ρ => (as.den ρ).bind fun ds ρ1 => Out.lift (zipsD ds) ρ1
  chk := fun k tg x => match x with | .Call (.Name y _) [a, b] [] _ => decide (y = "zip") && k.gl y && notStar a && [b].all notStar && isTup tg && as.chk k [a, b] | _ => false
  need := as.need
  ok := fun {X L A W lev k} c n tg x h => by
    split at h
    · simp only [Bool.and_eq_true, decide_eq_true_eq] at h
      obtain ⟨⟨⟨⟨⟨rfl, h1⟩, h2⟩, h0⟩, h3⟩, h4⟩ := h
      obtain ⟨c1, _, _⟩ := c.glOk h1
      cases tg with
      | Tuple elts kk tpos =>
        refine PI.weak (RZ.pi_zipA c1 (c.blt _ zip_blt) (as.ok c n _ h4) (starEach_cons h2) (noStars h0)) fun σ H R ⟨ρ, O, s, q⟩ => ?_
        refine tA_bind s q fun ds ρ1 vs H1 O1 e1 s1 r1 hk => ?_
        obtain ⟨out, ho, hk⟩ := post_lift hk
        unfold zipsD at ho
        split at ho
        · cases ho
          obtain ⟨v, w, rfl, rv, rw'⟩ := r1.two
          obtain ⟨p, xs, rfl, g1, _⟩ := rv.lstH
          obtain ⟨q, ys, rfl, g2, _⟩ := rw'.lstH
          exact ⟨p, q, xs, ys, rfl, .inl ⟨SqL.of g1, SqL.of g2, hk _ _ O1 e1 s1 (wk_zipL rfl rfl rv rw')⟩⟩
        · cases ho
          obtain ⟨v, w, rfl, rv, rw'⟩ := r1.two
          obtain ⟨p, xs, rfl, g1, _⟩ := rv.tupSq
          obtain ⟨q, ys, rfl, g2, _⟩ := rw'.tupSq
          exact ⟨p, q, xs, ys, rfl, .inr ⟨g1, g2, hk _ _ O1 e1 s1 (wk_zipT rfl rfl rv rw')⟩⟩
        · cases ho
      | _ => cases h3
    · cases h
  fd := fun k tg x h => by split at h <;> first | rfl | cases h
end Ev
set_option Elab.async false
set_option maxRecDepth 100000
set_option maxHeartbeats 4000000
/-! EvI: changes of the relation, targets, comprehensions. -/
namespace Ev
open PySem PySem.Spec PyProof.Rows L2

theorem tabs_set {T : List NdefX.NTab} {H : Hp} {p : Addr} {xs ys : List V} (t : NdefX.TabsN T H) (h : H p = some (.lst xs)) : NdefX.TabsN T (upd H p (.lst ys)) := fun q hq => by
  obtain ⟨ps, h1, h2, h3⟩ := t q hq
  refine ⟨ps, by rw [upd_ne (fun z => by rw [z, h] at h1; cases h1)]; exact h1, h2, fun pos cv hc => ?_⟩
  obtain ⟨c, e1, e2⟩ := h3 pos cv hc
  exact ⟨c, e1, by rw [upd_ne (fun z => by rw [z, h] at e2; unfold LamX.CodeO at e2; cases e2)]; exact e2⟩
section
variable {Z : Zx} {A : An} {H H' : Hp} {O O' : List Addr} {σ : L2.St} {ρ : En}
/-- a slot is set to a value -/
theorem SR.setV (s : SR Z A H O σ ρ) {i : Nat} {v : V} {d0 : D} (hi : i ∉ A.io.map (·.1)) (r : Rep Z H O v d0) : SR Z A H O (σ.set i (some v)) (ρ.set i (.v d0)) where
  len := by simp [s.len]
  val := fun j e h => by
    by_cases hj : i = j
    · subst hj
      have hl : i < ρ.length := by simpa using (List.getElem?_eq_some_iff.mp h).1
      rw [List.getElem?_set_self hl] at h
      cases h
      exact ⟨v, by rw [List.getElem?_set_self (by rw [s.len]; exact hl)], r⟩
    · rw [List.getElem?_set_ne hj] at h
      rw [List.getElem?_set_ne hj]
      exact s.val j e h
  own := fun j e h => by
    by_cases hj : i = j
    · subst hj
      have hl : i < ρ.length := by simpa using (List.getElem?_eq_some_iff.mp h).1
      rw [List.getElem?_set_self hl] at h
      cases h
    · rw [List.getElem?_set_ne hj] at h
      rw [List.getElem?_set_ne hj]
      exact s.own j e h
  sep := fun j k d e a h1 h2 h3 h4 => by
    have go : ∀ {j : Nat} {c : D}, (ρ.set i (.v d0))[j]? = some (.o c) → i ≠ j := fun {j c} h z => by
      subst z
      have hl : i < ρ.length := by simpa using (List.getElem?_eq_some_iff.mp h).1
      rw [List.getElem?_set_self hl] at h
      cases h
    have n1 := go h1
    have n2 := go h2
    rw [List.getElem?_set_ne n1] at h1 h3
    rw [List.getElem?_set_ne n2] at h2 h4
    exact s.sep j k d e a h1 h2 h3 h4
  tabs := s.tabs
  anc := s.anc
  dom := s.dom
  sub := s.sub
  trk := s.trk
  io := fun p hp => by
    have hn : i ≠ p.1 := fun z => hi (List.mem_map.mpr ⟨p, hp, z.symm⟩)
    rw [List.getElem?_set_ne hn, List.getElem?_set_ne hn]
    exact s.io p hp
theorem SR.notIo (s : SR Z A H O σ ρ) {i : Nat} (h : ∀ d, ρ[i]? ≠ some (.o d)) : i ∉ A.io.map (·.1) := fun z => by
  obtain ⟨p, hp, rfl⟩ := List.mem_map.mp z
  obtain ⟨_, d, e⟩ := s.io p hp
  exact h d e
/-- a slot is set to a new list -/
theorem SR.setO (s : SR Z A H O σ ρ) {i : Nat} {p : Addr} {xs : List V} {ds : List D} (hi : i ∉ A.io.map (·.1)) (h1 : A.H p = none) (h2 : p ∉ A.O) (h3 : p ∈ O) (h4 : ∀ (j : Nat) (d : D), ρ[j]? = some (.o d) → σ[j]? ≠ some (some (.ref p))) (h5 : H p = some (.lst xs)) (r : Reps Z H O xs ds) :
    SR Z A H O (σ.set i (some (.ref p))) (ρ.set i (.o (.lst ds))) where
  len := by simp [s.len]
  val := fun j e h => by
    by_cases hj : i = j
    · subst hj
      have hl : i < ρ.length := by simpa using (List.getElem?_eq_some_iff.mp h).1
      rw [List.getElem?_set_self hl] at h
      cases h
    · rw [List.getElem?_set_ne hj] at h
      rw [List.getElem?_set_ne hj]
      exact s.val j e h
  own := fun j e h => by
    by_cases hj : i = j
    · subst hj
      have hl : i < ρ.length := by simpa using (List.getElem?_eq_some_iff.mp h).1
      rw [List.getElem?_set_self hl] at h
      cases h
      exact ⟨p, by rw [List.getElem?_set_self (by rw [s.len]; exact hl)], ⟨xs, ds, rfl, h3, h5, r⟩, .inr ⟨h1, h2⟩⟩
    · rw [List.getElem?_set_ne hj] at h
      rw [List.getElem?_set_ne hj]
      exact s.own j e h
  sep := fun j k d e a g1 g2 g3 g4 => by
    by_cases hj : i = j <;> by_cases hk : i = k
    · rw [← hj, ← hk]
    · subst hj
      have hl : i < σ.length := by simpa using (List.getElem?_eq_some_iff.mp g3).1
      rw [List.getElem?_set_self hl] at g3
      rw [List.getElem?_set_ne hk] at g2 g4
      cases g3
      exact absurd g4 (h4 k e g2)
    · subst hk
      have hl : i < σ.length := by simpa using (List.getElem?_eq_some_iff.mp g4).1
      rw [List.getElem?_set_self hl] at g4
      rw [List.getElem?_set_ne hj] at g1 g3
      cases g4
      exact absurd g3 (h4 j d g1)
    · rw [List.getElem?_set_ne hj] at g1 g3
      rw [List.getElem?_set_ne hk] at g2 g4
      exact s.sep j k d e a g1 g2 g3 g4
  tabs := s.tabs
  anc := s.anc
  dom := s.dom
  sub := s.sub
  trk := s.trk
  io := fun p hp => by
    have hn : i ≠ p.1 := fun z => hi (List.mem_map.mpr ⟨p, hp, z.symm⟩)
    rw [List.getElem?_set_ne hn, List.getElem?_set_ne hn]
    exact s.io p hp
/-- an own list is written -/
theorem SR.write (s : SR Z A H O σ ρ) {i : Nat} {a : Addr} {ds es : List D} {ys : List V} (h1 : ρ[i]? = some (.o (.lst ds))) (h2 : σ[i]? = some (some (.ref a))) (r : Reps Z H O ys es) :
    Ext H O (upd H a (.lst ys)) O ∧ SR Z A (upd H a (.lst ys)) O σ (ρ.set i (.o (.lst es))) := by
  obtain ⟨a', g1, ⟨xs, ds', _, g2, g3, g4⟩, g5⟩ := s.own i _ h1
  rw [h2] at g1
  cases g1
  have ex : Ext H O (upd H a (.lst ys)) O := Ext.write g2
  have hl : i < ρ.length := (List.getElem?_eq_some_iff.mp h1).1
  have back : ∀ (j : Nat) (d : D), (ρ.set i (.o (.lst es)))[j]? = some (.o d) → ∃ d', ρ[j]? = some (.o d') := fun j d h => by
    by_cases hj : i = j
    · subst hj; exact ⟨_, h1⟩
    · rw [List.getElem?_set_ne hj] at h; exact ⟨d, h⟩
  refine ⟨ex, ⟨by simp [s.len], fun j d h => ?_, fun j d h => ?_, fun j k d e b q1 q2 q3 q4 => ?_, tabs_set s.tabs g3, fun b u q1 q2 q3 => ?_, fun b hb => ?_, s.sub, fun b hb => ?_, fun p hp => ?_⟩⟩
  · by_cases hj : i = j
    · subst hj
      rw [List.getElem?_set_self hl] at h
      cases h
    · rw [List.getElem?_set_ne hj] at h
      obtain ⟨v, q1, q2⟩ := s.val j d h
      exact ⟨v, q1, q2.ext ex⟩
  · by_cases hj : i = j
    · subst hj
      rw [List.getElem?_set_self hl] at h
      cases h
      exact ⟨a, h2, ⟨ys, es, rfl, g2, upd_same, r.ext ex⟩, g5⟩
    · rw [List.getElem?_set_ne hj] at h
      obtain ⟨b, q1, ⟨zs, fs, q2, q3, q4, q5⟩, q6⟩ := s.own j d h
      refine ⟨b, q1, ⟨zs, fs, q2, q3, ?_, q5.ext ex⟩, q6⟩
      rw [upd_ne (fun z => hj (s.sep i j _ d a h1 h (by rw [h2]) (by rw [q1, z])))]
      exact q4
  · obtain ⟨d', p1⟩ := back j d q1
    obtain ⟨e', p2⟩ := back k e q2
    exact s.sep j k d' e' b p1 p2 q3 q4
  · have q := s.anc b u q1 q2 q3
    rw [upd_ne (fun z => ?_)]
    · exact q
    · subst z
      rcases g5 with w | ⟨w, _⟩
      · exact q2 w
      · rw [w] at q1; cases q1
  · have q := s.dom b hb
    by_cases hz : b = a
    · rw [hz, upd_same]; exact fun z => nomatch z
    · rw [upd_ne hz]; exact q
  · by_cases hz : b = a
    · exact ⟨.lst ys, by rw [hz, upd_same], fun ps z => (nomatch z), .inl ⟨_, rfl⟩⟩
    · obtain ⟨u, q1, q2⟩ := s.trk b hb
      exact ⟨u, by rw [upd_ne hz]; exact q1, q2⟩
  · obtain ⟨q1, d, q2⟩ := s.io p hp
    refine ⟨q1, ?_⟩
    by_cases hj : i = p.1
    · exact ⟨.lst es, by rw [← hj, List.getElem?_set_self hl]⟩
    · exact ⟨d, by rw [List.getElem?_set_ne hj]; exact q2⟩
/-- a list that only the frame's own account knows is written -/
theorem SR.poke (s : SR Z A H O σ ρ) {p : Addr} {xs ys : List V} (hO : p ∈ O) (hA : A.H p = none) (hp : H p = some (.lst xs)) (hn : ∀ (j : Nat) (d : D), ρ[j]? = some (.o d) → σ[j]? ≠ some (some (.ref p))) :
    Ext H O (upd H p (.lst ys)) O ∧ SR Z A (upd H p (.lst ys)) O σ ρ := by
  have ex : Ext H O (upd H p (.lst ys)) O := Ext.write hO
  refine ⟨ex, ⟨s.len, fun j d h => ?_, fun j d h => ?_, s.sep, tabs_set s.tabs hp, fun b u q1 q2 q3 => ?_, fun b hb => ?_, s.sub, fun b hb => ?_, s.io⟩⟩
  · obtain ⟨v, q1, q2⟩ := s.val j d h
    exact ⟨v, q1, q2.ext ex⟩
  · obtain ⟨b, q1, ⟨zs, fs, q2, q3, q4, q5⟩, q6⟩ := s.own j d h
    refine ⟨b, q1, ⟨zs, fs, q2, q3, ?_, q5.ext ex⟩, q6⟩
    rw [upd_ne (fun z => hn j d h (by rw [q1, z]))]
    exact q4
  · rw [upd_ne (fun z => by rw [z, hA] at q1; cases q1)]
    exact s.anc b u q1 q2 q3
  · have q := s.dom b hb
    by_cases hz : b = p
    · rw [hz, upd_same]; exact fun z => nomatch z
    · rw [upd_ne hz]; exact q
  · by_cases hz : b = p
    · exact ⟨.lst ys, by rw [hz, upd_same], fun ps z => (nomatch z), .inl ⟨_, rfl⟩⟩
    · obtain ⟨u, q1, q2⟩ := s.trk b hb
      exact ⟨u, by rw [upd_ne hz]; exact q1, q2⟩
/-- a new list is taken to one's own -/
theorem SR.grow (s : SR Z A H O σ ρ) {p : Addr} {xs : List V} (hp : H p = none) : Ext H O (upd H p (.lst xs)) (p :: O) ∧ SR Z A (upd H p (.lst xs)) (p :: O) σ ρ := by
  have ex : Ext H O (upd H p (.lst xs)) (p :: O) := (Ext.new hp).trans (Ext.write List.mem_cons_self)
  have sm : Same H (upd H p (.lst xs)) := same_new hp
  refine ⟨ex, ⟨s.len, fun j d h => ?_, fun j d h => ?_, s.sep, s.tabs.ext sm, fun b u q1 q2 q3 => sm b u (s.anc b u q1 q2 q3), fun b hb => same_dom sm (s.dom b hb), fun b hb => List.mem_cons_of_mem _ (s.sub b hb), fun b hb => ?_, s.io⟩⟩
  · obtain ⟨v, q1, q2⟩ := s.val j d h
    exact ⟨v, q1, q2.ext ex⟩
  · obtain ⟨b, q1, ⟨zs, fs, q2, q3, q4, q5⟩, q6⟩ := s.own j d h
    exact ⟨b, q1, ⟨zs, fs, q2, List.mem_cons_of_mem _ q3, sm _ _ q4, q5.ext ex⟩, q6⟩
  · rcases List.mem_cons.mp hb with z | z
    · exact ⟨.lst xs, by rw [z, upd_same], fun ps z => (nomatch z), .inl ⟨_, rfl⟩⟩
    · obtain ⟨u, q1, q2⟩ := s.trk b z
      exact ⟨u, sm _ _ q1, q2⟩
def dropA (p : Addr) (O : List Addr) : List Addr := O.filter fun b => decide (b ≠ p)
theorem mem_dropA {p b : Addr} {O : List Addr} : b ∈ dropA p O ↔ b ∈ O ∧ b ≠ p := by simp [dropA]
/-- what was one's own alone is given up: it stays as it is from now on -/
theorem SR.drop (s : SR Z A H O σ ρ) {p : Addr} (h2 : p ∉ A.O) (hn : ∀ (j : Nat) (d : D), ρ[j]? = some (.o d) → σ[j]? ≠ some (some (.ref p))) : Ext H O H (dropA p O) ∧ SR Z A H (dropA p O) σ ρ := by
  have ex : Ext H O H (dropA p O) := Ext.sub fun b hb => (mem_dropA.mp hb).1
  refine ⟨ex, ⟨s.len, fun j d h => ?_, fun j d h => ?_, s.sep, s.tabs, s.anc, s.dom, fun b hb => mem_dropA.mpr ⟨s.sub b hb, fun z => h2 (by rw [← z]; exact hb)⟩, fun b hb => s.trk b (mem_dropA.mp hb).1, s.io⟩⟩
  · obtain ⟨v, q1, q2⟩ := s.val j d h
    exact ⟨v, q1, q2.ext ex⟩
  · obtain ⟨b, q1, ⟨zs, fs, q2, q3, q4, q5⟩, q6⟩ := s.own j d h
    exact ⟨b, q1, ⟨zs, fs, q2, mem_dropA.mpr ⟨q3, fun z => hn j d h (by rw [q1, z])⟩, q4, q5.ext ex⟩, q6⟩
end

/-! ### a new list as a value -/
/-- of a new list, of which nobody else knows -/
def tN (Z : Zx) (A : An) (W : WX) (f : En → Out (List D)) : TE := fun σ H Q => ∃ ρ O, SR Z A H O σ ρ ∧ (f ρ).Post (fun ds ρ' => ∀ p xs H' O', Ext H O H' O' → A.H p = none → p ∉ A.O → p ∈ O' → (∀ (j : Nat) (d : D), ρ'[j]? = some (.o d) → σ[j]? ≠ some (some (.ref p))) → H' p = some (.lst xs) → SR Z A H' O' σ ρ' → Reps Z H' O' xs ds → Q (.ref p) H') (ErP Z A W H O)
theorem tN_val {Z : Zx} {A : An} {W : WX} {f : En → Out (List D)} {σ : L2.St} {H : Hp} {Q : VK} (q : tS Z A W (fun ρ => (f ρ).bind fun ds ρ1 => .ok (.lst ds) ρ1) σ H Q) : tN Z A W f σ H Q := by
  obtain ⟨ρ, O, s, q⟩ := q
  refine ⟨ρ, O, s, (Out.post_bind q).mono (fun ds ρ' hq p xs H' O' ex h1 h2 h3 h4 h5 s' r => ?_) fun _ _ z => z⟩
  obtain ⟨ex2, s2⟩ := s'.drop h2 h4
  exact hq _ H' (dropA p O') (ex.trans ex2) s2 (.lst ⟨h5, fun z => (mem_dropA.mp z).2 rfl⟩ (r.ext ex2))

/-! ### targets -/
def tG (Z : Zx) (A : An) (den : D → En → Option En) (sl : List Nat) : TG := fun v σ H Q => ∃ ρ O d ρ', SR Z A H O σ ρ ∧ Rep Z H O v d ∧ den d ρ = some ρ' ∧
  ∀ σ' H' O', Ext H O H' O' → SR Z A H' O' σ' ρ' → σ'.length = σ.length → (∀ i, i ∉ sl → σ'[i]? = σ[i]?) → Q σ' H'
def tGs (Z : Zx) (A : An) (den : List D → En → Option En) (sl : List Nat) : TGs := fun vs σ H Q => ∃ ρ O ds ρ', SR Z A H O σ ρ ∧ Reps Z H O vs ds ∧ den ds ρ = some ρ' ∧
  ∀ σ' H' O', Ext H O H' O' → SR Z A H' O' σ' ρ' → σ'.length = σ.length → (∀ i, i ∉ sl → σ'[i]? = σ[i]?) → Q σ' H'
theorem PG.weak {X : Cx} {tg : Expr} {t t' : TG} (h : PG X tg t) (w : ∀ v σ H Q, t' v σ H Q → t v σ H Q) : PG X tg t' := ⟨fun pins s σ H v u Q I r q => h.run pins s σ H v u Q I r (w v σ H Q q)⟩
theorem PGs.weak {X : Cx} {tg : List Expr} {t t' : TGs} (h : PGs X tg t) (w : ∀ v σ H Q, t' v σ H Q → t v σ H Q) : PGs X tg t' := ⟨fun pins s σ H v u Q I r q => h.run pins s σ H v u Q I r (w v σ H Q q)⟩
structure Tg where
  den : D → En → Option En
  sl : List Nat
  chk : Ck → Expr → Bool
  need : Need
  ok : ∀ {X : Cx} {L : Lx} {A : An} {W : WX} {lev : Nat} {k : Ck}, Cxt X L A W lev k → Has X L lev need → ∀ x, chk k x = true → PG X x (tG (zx X L) A den sl)
structure Tgs where
  den : List D → En → Option En
  sl : List Nat
  chk : Ck → List Expr → Bool
  need : Need
  ok : ∀ {X : Cx} {L : Lx} {A : An} {W : WX} {lev : Nat} {k : Ck}, Cxt X L A W lev k → Has X L lev need → ∀ xs, chk k xs = true → PGs X xs (tGs (zx X L) A den sl)
  ns : ∀ k xs, chk k xs = true → xs.all notStar = true
def nameD (i : Nat) (d : D) (ρ : En) : Option En := match ρ[i]? with
  | some (.o _) => none
  | some _ => some (ρ.set i (.v d))
  | none => none
theorem nameD_spec {i : Nat} {d : D} {ρ ρ' : En} (h : nameD i d ρ = some ρ') : ρ' = ρ.set i (.v d) ∧ ∀ e, ρ[i]? ≠ some (.o e) := by
  unfold nameD at h
  split at h
  · cases h
  · rename_i s hs
    cases h
    exact ⟨rfl, fun e z => by rw [z] at hs; exact s e (Option.some.inj hs).symm⟩
  · cases h
def Tg.name (i : Nat) : Tg where
  den := nameD i
  sl := [i]
  chk := fun k x => match x with | .Name y _ => k.loc i y | _ => false
  need := .nil
  ok := fun {X L A W lev k} c n x h => by
    split at h
    · obtain ⟨h1, h2, h3⟩ := c.locOk h
      refine PG.weak (pg_name (by rw [c.N]; exact c.nd) h1 h2 h3) fun v σ H Q ⟨ρ, O, d, ρ', s, r, hd, q⟩ => ?_
      obtain ⟨rfl, hno⟩ := nameD_spec hd
      exact q _ H O (Ext.refl H O) (s.setV (s.notIo hno) r) (by simp) fun j hj => by rw [List.getElem?_set_ne (fun z => hj (by simp [z]))]
    · cases h
theorem assignEach_all {es : List Expr} {env : PySem.Env} (h : es.all notStar = true) : assignEach es env = es.map fun e => (false, assign e env) := by
  induction es with
  | nil => rfl
  | cons e es ih =>
    rw [List.all_cons, Bool.and_eq_true] at h
    have : assignEach (e :: es) env = (false, assign e env) :: assignEach es env := by
      have h0 := h.1
      cases e <;> first | rfl | cases h0
    rw [this, ih h.2]
    rfl
def nilD (ds : List D) (ρ : En) : Option En := match ds with
  | [] => some ρ
  | _ => none
def Tgs.nil : Tgs where
  den := nilD
  sl := []
  chk := fun k xs => xs.isEmpty
  need := .nil
  ok := fun {X L A W lev k} c n xs h => by
    cases xs with
    | nil =>
      refine PGs.weak pgs_nil fun vs σ H Q ⟨ρ, O, ds, ρ', s, r, hd, q⟩ => ?_
      unfold nilD at hd
      split at hd
      · cases hd
        cases r
        exact ⟨rfl, q σ H O (Ext.refl H O) s rfl fun _ _ => rfl⟩
      · cases hd
    | cons _ _ => cases h
  ns := fun k xs h => by cases xs <;> first | rfl | cases h
def consD (t : D → En → Option En) (u : List D → En → Option En) (ds : List D) (ρ : En) : Option En := match ds with
  | d :: r => (t d ρ).bind fun ρ1 => u r ρ1
  | [] => none
def Tgs.cons (t : Tg) (u : Tgs) : Tgs where
  den := consD t.den u.den
  sl := t.sl ++ u.sl
  chk := fun k xs => match xs with | x :: xs => notStar x && t.chk k x && u.chk k xs | [] => false
  need := t.need.app u.need
  ok := fun {X L A W lev k} c n xs h => by
    cases xs with
    | nil => cases h
    | cons x xs =>
      have h : (notStar x && t.chk k x && u.chk k xs) = true := h
      simp only [Bool.and_eq_true] at h
      have hall : (x :: xs).all notStar = true := by rw [List.all_cons, h.1.1, u.ns k xs h.2]; rfl
      refine PGs.weak (pgs_cons (t.ok c n.left x h.1.2) (u.ok c n.right xs h.2) (by rw [assignEach_all hall, assignEach_all (u.ns k xs h.2)]; rfl)) fun vs σ H Q ⟨ρ, O, ds, ρ', s, r, hd, q⟩ => ?_
      unfold consD at hd
      split at hd
      · rename_i d dr
        obtain ⟨ρ1, hd1, hd2⟩ := Option.bind_eq_some_iff.mp hd
        cases r with
        | cons r rr =>
          refine ⟨_, _, rfl, ρ, O, d, ρ1, s, r, hd1, fun σ1 H1 O1 e1 s1 l1 g1 => ⟨ρ1, O1, dr, ρ', s1, rr.ext e1, hd2, fun σ2 H2 O2 e2 s2 l2 g2 => ?_⟩⟩
          refine q σ2 H2 O2 (e1.trans e2) s2 (l2.trans l1) fun i hi => ?_
          rw [List.mem_append, not_or] at hi
          rw [g2 i hi.2, g1 i hi.1]
      · cases hd
  ns := fun k xs h => by
    cases xs with
    | nil => rfl
    | cons x xs =>
      have h : (notStar x && t.chk k x && u.chk k xs) = true := h
      simp only [Bool.and_eq_true] at h
      rw [List.all_cons, h.1.1, u.ns k xs h.2]
      rfl
def tupD (n : Nat) (u : List D → En → Option En) (d : D) (ρ : En) : Option En := match d with
  | .tup ds => if ds.length = n then u ds ρ else none
  | _ => none
theorem findIdx_none {es : List Expr} {env : PySem.Env} : (es.map fun e => (false, assign e env)).findIdx? (·.1) = none := by
  rw [List.findIdx?_eq_none_iff]
  intro p hp
  obtain ⟨e, _, rfl⟩ := List.mem_map.mp hp
  rfl
/-- n: how many -/
def Tg.tup (n : Nat) (u : Tgs) : Tg where
  den := tupD n u.den
  sl := u.sl
  chk := fun k x => match x with | .Tuple es _ _ => decide (es.length = n) && u.chk k es | _ => false
  need := u.need
  ok := fun {X L A W lev k} c hn x h => by
    cases x with
    | Tuple es kk pos =>
      have h : (decide (es.length = n) && u.chk k es) = true := h
      rw [Bool.and_eq_true, decide_eq_true_eq] at h
      have hall := assignEach_all (env := X.env) (u.ns k es h.2)
      refine PG.weak (pg_tup c.calm (u.ok c hn es h.2) (n := n) (by rw [hall, List.length_map]; exact h.1) (by rw [hall]; exact findIdx_none)) fun v σ H Q ⟨ρ, O, d, ρ', s, r, hd, q⟩ => ?_
      unfold tupD at hd
      split at hd
      · split at hd
        · rename_i hl
          obtain ⟨p, xs, rfl, h1, rs⟩ := r.tupSq
          exact ⟨p, xs, rfl, h1, by rw [rs.length]; exact hl, ρ, O, _, ρ', s, rs, hd, q⟩
        · cases hd
      · cases hd
    | _ => cases h
/-- own[i] = .. -/
def subD (i : Nat) (a : Ex) (d : D) (ρ : En) : Option En := if isOwn ρ i = true then (match a.den ρ with
  | .ok (.int j) ρ1 => (match ρ1[i]? with
    | some (.o (.lst ds)) => (ixN ds.length j).map fun m => ρ1.set i (.o (.lst (ds.set m d)))
    | _ => none)
  | _ => none) else none
theorem assign_subP {o i : Expr} {pos : Pos} {env : PySem.Env} (h : plainIx i = true) : ∀ v, assign (.Subscript o i pos) env v = (do
      let ov ← holding [v] (eval o env)
      let iv ← holding [v, ov] (eval i env)
      standAt pos
      holding [v, ov, iv] (setItem ov iv v)
      release [v, ov, iv] []) := by
  intro v
  cases i <;> first | rfl | cases h
def Tg.sub (i : Nat) (a : Ex) : Tg where
  den := subD i a
  sl := []
  chk := fun k x => match x with | .Subscript (.Name y _) ix _ => k.vis i y && plainIx ix && a.chk k ix | _ => false
  need := a.need
  ok := fun {X L A W lev k} c n x h => by
    split at h
    · simp only [Bool.and_eq_true] at h
      obtain ⟨⟨h1, h2⟩, h3⟩ := h
      obtain ⟨c1, c2, c3, c4⟩ := c.visOk h1
      refine PG.weak (pg_sub (pe_var c1 c2 c3 c4) (a.ok c n _ h3) set_list (assign_subP h2)) fun v σ H Q ⟨ρ, O, d, ρ', s, r, hd, q⟩ => ?_
      unfold subD at hd
      split at hd
      · rename_i hown
        split at hd
        · rename_i j ρ1 ha
          split at hd
          · rename_i ds ho
            obtain ⟨m, hm, rfl⟩ := Option.map_eq_some_iff.mp hd
            unfold isOwn at hown
            split at hown
            · rename_i d0 h0
              obtain ⟨p, hp, _⟩ := s.own i d0 h0
              refine ⟨.ref p, hp, ρ, O, s, ?_⟩
              rw [ha]
              intro w H1 O1 e1 s1 rw1
              cases rw1
              obtain ⟨p', hp', ⟨xs, es, g1, g2, g3, g4⟩, _⟩ := s1.own i _ ho
              rw [hp] at hp'
              cases hp'
              cases g1
              refine ⟨p, xs, j, m, rfl, rfl, g3, by rw [g4.length]; exact hm, ?_⟩
              obtain ⟨e2, s2⟩ := s1.write ho hp (g4.set (r.ext e1) m)
              exact q σ _ O1 (e1.trans e2) s2 rfl fun _ _ => rfl
            · cases hown
          · cases hd
        · cases hd
      · cases hd
    · cases h
end Ev
set_option Elab.async false
set_option maxRecDepth 100000
set_option maxHeartbeats 4000000
/-! EvJ: list comprehensions of one for. -/
namespace Ev
open PySem PySem.Spec PyProof.Rows L2

/-! ### slots of a block -/
def wipeE (ρ : En) : List Nat → En
  | [] => ρ
  | v :: vs => (wipeE ρ vs).set v .n
def backE (ρ0 : En) : List Nat → En → En
  | [], ρ => ρ
  | v :: vs, ρ => (backE ρ0 vs ρ).set v (ρ0[v]?.getD .n)
theorem wipeE_length (ρ : En) : ∀ vs : List Nat, (wipeE ρ vs).length = ρ.length
  | [] => rfl
  | v :: vs => by unfold wipeE; rw [List.length_set, wipeE_length ρ vs]
theorem wipeE_out {ρ : En} {i : Nat} : ∀ {vs : List Nat}, i ∉ vs → (wipeE ρ vs)[i]? = ρ[i]?
  | [], _ => rfl
  | v :: vs, h => by
    rw [List.mem_cons, not_or] at h
    unfold wipeE
    rw [List.getElem?_set_ne (Ne.symm h.1), wipeE_out h.2]
theorem wipeE_in {ρ : En} {i : Nat} {s : Sl} : ∀ {vs : List Nat}, i ∈ vs → (wipeE ρ vs)[i]? = some s → s = .n
  | [], h, _ => nomatch h
  | v :: vs, h, e => by
    unfold wipeE at e
    by_cases hv : v = i
    · subst hv
      have hl : v < (wipeE ρ vs).length := by simpa using (List.getElem?_eq_some_iff.mp e).1
      rw [List.getElem?_set_self hl] at e
      exact (Option.some.inj e).symm
    · rw [List.getElem?_set_ne hv] at e
      rcases List.mem_cons.mp h with z | z
      · exact absurd z.symm hv
      · exact wipeE_in z e
theorem wipe_in {σ : L2.St} {i : Nat} : ∀ {vs : List Nat}, i ∈ vs → i < σ.length → (wipe σ vs)[i]? = some none
  | [], h, _ => nomatch h
  | v :: vs, h, hl => by
    unfold wipe
    by_cases hv : v = i
    · subst hv
      rw [List.getElem?_set_self (by rw [wipe_length]; exact hl)]
    · rw [List.getElem?_set_ne hv]
      rcases List.mem_cons.mp h with z | z
      · exact absurd z.symm hv
      · exact wipe_in z hl
theorem backE_length (ρ0 : En) : ∀ (vs : List Nat) (ρ : En), (backE ρ0 vs ρ).length = ρ.length
  | [], ρ => rfl
  | v :: vs, ρ => by unfold backE; rw [List.length_set, backE_length ρ0 vs ρ]
theorem backE_out {ρ0 ρ : En} {i : Nat} : ∀ {vs : List Nat}, i ∉ vs → (backE ρ0 vs ρ)[i]? = ρ[i]?
  | [], _ => rfl
  | v :: vs, h => by
    rw [List.mem_cons, not_or] at h
    unfold backE
    rw [List.getElem?_set_ne (Ne.symm h.1), backE_out h.2]
theorem backE_in {ρ0 ρ : En} {i : Nat} {s : Sl} : ∀ {vs : List Nat}, i ∈ vs → (backE ρ0 vs ρ)[i]? = some s → s = ρ0[i]?.getD .n
  | [], h, _ => nomatch h
  | v :: vs, h, e => by
    unfold backE at e
    by_cases hv : v = i
    · subst hv
      have hl : v < (backE ρ0 vs ρ).length := by simpa using (List.getElem?_eq_some_iff.mp e).1
      rw [List.getElem?_set_self hl] at e
      exact (Option.some.inj e).symm
    · rw [List.getElem?_set_ne hv] at e
      rcases List.mem_cons.mp h with z | z
      · exact absurd z.symm hv
      · exact backE_in z e
def noOwn (ρ : En) (vs : List Nat) : Bool := vs.all fun i => !isOwn ρ i
theorem noOwn_at {ρ : En} {vs : List Nat} (h : noOwn ρ vs = true) {i : Nat} (hi : i ∈ vs) (d : D) : ρ[i]? ≠ some (.o d) := fun z => by
  have := List.all_eq_true.mp h i hi
  unfold isOwn at this
  rw [z] at this
  cases this
section
variable {Z : Zx} {A : An} {H H' : Hp} {O O' : List Addr} {σ σ' : L2.St} {ρ ρ' : En}
theorem SR.wipe (s : SR Z A H O σ ρ) {vs : List Nat} (hv : ∀ p ∈ A.io, p.1 ∉ vs) : SR Z A H O (L2.wipe σ vs) (wipeE ρ vs) := by
  have out : ∀ {i : Nat} {t : Sl}, (wipeE ρ vs)[i]? = some t → t ≠ .n → i ∉ vs ∧ ρ[i]? = some t := fun {i t} h hn => by
    by_cases hi : i ∈ vs
    · exact absurd (wipeE_in hi h) hn
    · exact ⟨hi, by rw [← wipeE_out hi]; exact h⟩
  refine ⟨by rw [wipe_length, wipeE_length]; exact s.len, fun i d h => ?_, fun i d h => ?_, fun i j d e a h1 h2 h3 h4 => ?_, s.tabs, s.anc, s.dom, s.sub, s.trk, fun p hp => ?_⟩
  · obtain ⟨hi, h⟩ := out h (fun z => nomatch z)
    obtain ⟨v, h1, h2⟩ := s.val i d h
    exact ⟨v, by rw [wipe_out hi]; exact h1, h2⟩
  · obtain ⟨hi, h⟩ := out h (fun z => nomatch z)
    obtain ⟨v, h1, h2⟩ := s.own i d h
    exact ⟨v, by rw [wipe_out hi]; exact h1, h2⟩
  · obtain ⟨hi, h1⟩ := out h1 (fun z => nomatch z)
    obtain ⟨hj, h2⟩ := out h2 (fun z => nomatch z)
    rw [wipe_out hi] at h3
    rw [wipe_out hj] at h4
    exact s.sep i j d e a h1 h2 h3 h4
  · rw [wipe_out (hv p hp), wipeE_out (hv p hp)]
    exact s.io p hp
/-- behind the block: its own names' slots are as they were -/
theorem SR.back {H1 : Hp} {O1 : List Addr} {ρ1 : En} (s : SR Z A H O (L2.wipe σ vs) (wipeE ρ vs)) (s1 : SR Z A H1 O1 σ ρ1) (e : Ext H1 O1 H O) (hn : noOwn ρ1 vs = true) : SR Z A H O σ (backE ρ1 vs ρ) := by
  have out : ∀ {i : Nat} {d : D}, (backE ρ1 vs ρ)[i]? = some (.o d) → i ∉ vs ∧ (wipeE ρ vs)[i]? = some (.o d) := fun {i d} h => by
    by_cases hi : i ∈ vs
    · have z := backE_in hi h
      cases q : ρ1[i]? with
      | none => rw [q] at z; cases z
      | some t =>
        rw [q] at z
        have z : Sl.o d = t := z
        exact absurd (by rw [q, z]) (noOwn_at hn hi d)
    · exact ⟨hi, by rw [wipeE_out hi, ← backE_out hi]; exact h⟩
  refine ⟨by rw [backE_length, ← wipeE_length ρ vs, ← s.len, wipe_length], fun i d h => ?_, fun i d h => ?_, fun i j d e a h1 h2 h3 h4 => ?_, s.tabs, s.anc, s.dom, s.sub, s.trk, fun p hp => ?_⟩
  · by_cases hi : i ∈ vs
    · have z := backE_in hi h
      cases q : ρ1[i]? with
      | none => rw [q] at z; cases z
      | some t =>
        rw [q] at z
        have z : Sl.v d = t := z
        obtain ⟨v, h1, h2⟩ := s1.val i d (by rw [q, z])
        exact ⟨v, h1, h2.ext e⟩
    · rw [backE_out hi, ← wipeE_out hi] at h
      obtain ⟨v, h1, h2⟩ := s.val i d h
      rw [wipe_out hi] at h1
      exact ⟨v, h1, h2⟩
  · obtain ⟨hi, h⟩ := out h
    obtain ⟨v, h1, h2⟩ := s.own i d h
    rw [wipe_out hi] at h1
    exact ⟨v, h1, h2⟩
  · obtain ⟨hi, h1⟩ := out h1
    obtain ⟨hj, h2⟩ := out h2
    rw [← wipe_out hi] at h3
    rw [← wipe_out hj] at h4
    exact s.sep i j d e a h1 h2 h3 h4
  · obtain ⟨h1, d, h2⟩ := s1.io p hp
    have hi : p.1 ∉ vs := fun z => noOwn_at hn z d h2
    obtain ⟨_, d', h3⟩ := s.io p hp
    exact ⟨h1, d', by rw [backE_out hi, ← wipeE_out hi]; exact h3⟩
/-- the own lists and their places -/
def ownsOf (ρ : En) (σ : L2.St) : List (Nat × Addr) := (List.range ρ.length).filterMap fun (i : Nat) => match ρ[i]?, σ[i]? with
  | some (Sl.o _), some (some (V.ref a)) => some (i, a)
  | _, _ => none
theorem mem_ownsOf {p : Nat × Addr} : p ∈ ownsOf ρ σ ↔ (∃ d, ρ[p.1]? = some (.o d)) ∧ σ[p.1]? = some (some (.ref p.2)) := by
  unfold ownsOf
  rw [List.mem_filterMap]
  constructor
  · rintro ⟨i, _, h⟩
    split at h
    · rename_i d a h1 h2
      cases h
      exact ⟨⟨d, h1⟩, h2⟩
    · cases h
  · rintro ⟨⟨d, h1⟩, h2⟩
    refine ⟨p.1, List.mem_range.mpr (List.getElem?_eq_some_iff.mp h1).1, ?_⟩
    rw [h1, h2]
/-- a new beginning, here -/
def here (H : Hp) (O : List Addr) (σ : L2.St) (ρ : En) : An := ⟨H, ownsOf ρ σ, O⟩
theorem here_W {a : Addr} : a ∈ (here H O σ ρ).W ↔ ∃ (i : Nat) (d : D), ρ[i]? = some (.o d) ∧ σ[i]? = some (some (.ref a)) := by
  unfold An.W here
  rw [List.mem_map]
  constructor
  · rintro ⟨p, hp, rfl⟩
    obtain ⟨⟨d, h1⟩, h2⟩ := mem_ownsOf.mp hp
    exact ⟨p.1, d, h1, h2⟩
  · rintro ⟨i, d, h1, h2⟩
    exact ⟨(i, a), mem_ownsOf.mpr ⟨⟨d, h1⟩, h2⟩, rfl⟩
theorem SR.re (s : SR Z A H O σ ρ) : SR Z (here H O σ ρ) H O σ ρ where
  len := s.len
  val := s.val
  own := fun i d h => by
    obtain ⟨a, h1, h2, _⟩ := s.own i d h
    exact ⟨a, h1, h2, .inl (here_W.mpr ⟨i, d, h, h1⟩)⟩
  sep := s.sep
  tabs := s.tabs
  anc := fun b u h _ _ => h
  dom := fun b h => h
  sub := fun b h => h
  trk := s.trk
  io := fun p hp => by
    obtain ⟨h1, h2⟩ := mem_ownsOf.mp hp
    exact ⟨h2, h1⟩
theorem SR.un (s : SR Z A H O σ ρ) (s' : SR Z (here H O σ ρ) H' O' σ' ρ') : SR Z A H' O' σ' ρ' where
  len := s'.len
  val := s'.val
  own := fun i d h => by
    obtain ⟨a, h1, h2, h3⟩ := s'.own i d h
    refine ⟨a, h1, h2, ?_⟩
    rcases h3 with h3 | ⟨h3, h4⟩
    · obtain ⟨j, e, g1, g2⟩ := here_W.mp h3
      obtain ⟨a', g3, _, g4⟩ := s.own j e g1
      rw [g2] at g3
      cases g3
      exact g4
    · refine .inr ⟨?_, fun z => h4 (s.sub a z)⟩
      cases q : A.H a with
      | none => rfl
      | some u => exact absurd h3 (s.dom a (by rw [q]; exact fun z => nomatch z))
  sep := s'.sep
  tabs := s'.tabs
  anc := fun b u h1 h2 h3 => by
    refine s'.anc b u (s.anc b u h1 h2 h3) (fun z => ?_) h3
    obtain ⟨j, e, g1, g2⟩ := here_W.mp z
    obtain ⟨a', g3, _, g4⟩ := s.own j e g1
    rw [g2] at g3
    cases g3
    rcases g4 with g4 | ⟨g4, _⟩
    · exact h2 g4
    · rw [g4] at h1; cases h1
  dom := fun b h => s'.dom b (s.dom b h)
  sub := fun b h => s'.sub b (s.sub b h)
  trk := s'.trk
  io := fun p hp => by
    obtain ⟨h1, d, h2⟩ := s.io p hp
    exact s'.io p (mem_ownsOf.mpr ⟨⟨d, h2⟩, h1⟩)
end

/-! ### the block's context -/
theorem lookup_rel {sc : Scope} {x : Str} {c : NameKind} : ∀ {names : List (Str × NameKind)}, names.lookup x = some c →
    (names.map fun (n, k) => if (k == NameKind.free && sc.kind == .function && sc.names.lookup n == some .cell) then (n, NameKind.cell) else (n, k)).lookup x = some c ∨
    (c = .free ∧ (names.map fun (n, k) => if (k == NameKind.free && sc.kind == .function && sc.names.lookup n == some .cell) then (n, NameKind.cell) else (n, k)).lookup x = some .cell)
  | [], h => by simp at h
  | (n, k) :: r, h => by
    rw [List.lookup_cons] at h
    rw [List.map_cons]
    by_cases hx : (x == n) = true
    · rw [hx] at h
      have h : k = c := Option.some.inj h
      subst h
      by_cases hc : (k == NameKind.free && sc.kind == .function && sc.names.lookup n == some .cell) = true
      · simp only [hc, if_true]
        rw [List.lookup_cons, hx]
        refine .inr ⟨?_, rfl⟩
        simp only [Bool.and_eq_true] at hc
        simpa using hc.1.1
      · simp only [hc]
        rw [if_neg Bool.false_ne_true, List.lookup_cons, hx]
        exact .inl rfl
    · have hx : (x == n) = false := by simpa using hx
      rw [hx] at h
      have ih := lookup_rel (sc := sc) h
      by_cases hc : (k == NameKind.free && sc.kind == .function && sc.names.lookup n == some .cell) = true
      · simp only [hc, if_true]
        rw [List.lookup_cons, hx]
        exact ih
      · simp only [hc]
        rw [if_neg Bool.false_ne_true, List.lookup_cons, hx]
        exact ih
def Ck.inner (k : Ck) (ns : List (Str × NameKind)) : Ck := ⟨k.N, ns, k.io, k.q, k.nm⟩
abbrev W0 : WX := fun _ _ _ _ => False
theorem Cxt.blk {X : Cx} {L : Lx} {A A' : An} {W : WX} {lev : Nat} {k : Ck} (c : Cxt X L A W lev k) (s : Shared) (H : Hp) (scope : Scope) (C : Addr) (cl : List (Str × Addr)) (fp : List Addr) :
    Cxt (X.blk s H scope (compEnvC scope cl C X.env) fp) L A' W0 lev (k.inner scope.names) where
  N := c.N
  nd := c.nd
  calm := c.calm
  sc := fun x q h => lookup_rel (sc := X.env.scope) h
  fn := fun x h => by
    rcases h with h | h
    · exact .inr (lookup_relS_keep (sc := X.env.scope) (by decide) h)
    · refine .inl ?_
      show (scope.names.lookup x == some .cell) = true
      have h : scope.names.lookup x = some .cell := h
      rw [h]
      rfl
  tk := takes0
  room := c.room
  blt := c.blt
  gd := c.gd
  po := PassesOwn.never
  qual := c.qual
  tab := c.tab
theorem Has.blk {X : Cx} {L : Lx} {lev : Nat} {n : Need} (h : Has X L lev n) (s : Shared) (H : Hp) (scope : Scope) (cenv : PySem.Env) (fp : List Addr) : Has (X.blk s H scope cenv fp) L lev n := ⟨h.fs, h.gs, h.kw, h.cl, h.lm⟩
def blkCk (k : Ck) (scope : Scope) (vs : List Nat) : Bool :=
  (match scope.kind with | .function => true | _ => false) && (scope.names.all fun y => decide (scope.names.lookup y.1 = some y.2)) && (vs.all fun v => decide (v < k.N.length)) &&
    (scope.names.all fun y => match y.2 with
      | .free => (match k.ns.lookup y.1 with | some .cell => true | some .free => true | _ => false)
      | .local => (vs.any fun v => decide (k.N[v]? = some y.1)) || decide (y.1 ∉ k.N)
      | .cell => (vs.any fun v => decide (k.N[v]? = some y.1)) || decide (y.1 ∉ k.N)
      | _ => true)
def ownN (k : Ck) (vs : List Nat) : List (Str × Nat) := vs.map fun v => (k.N[v]?.getD "", v)
theorem ownN_snd (k : Ck) (vs : List Nat) : (ownN k vs).map (·.2) = vs := by
  unfold ownN
  rw [List.map_map]
  exact List.map_id' vs
theorem Cxt.blkOk {X : Cx} {L : Lx} {A : An} {W : WX} {lev : Nat} {k : Ck} (c : Cxt X L A W lev k) {scope : Scope} {vs : List Nat} (h : blkCk k scope vs = true) : BlkOk X.N X.env.scope scope (ownN k vs) := by
  unfold blkCk at h
  simp only [Bool.and_eq_true, List.all_eq_true, decide_eq_true_eq] at h
  obtain ⟨⟨⟨h1, h2⟩, h3⟩, h4⟩ := h
  have mem : ∀ {y : Str}, (∃ v ∈ vs, k.N[v]? = some y) → y ∈ (ownN k vs).map (·.1) := fun {y} ⟨v, hv, e⟩ => by
    unfold ownN
    rw [List.map_map]
    exact List.mem_map.mpr ⟨v, hv, by show (k.N[v]?).getD "" = y; rw [e]; rfl⟩
  refine ⟨?_, h2, fun p hp => ?_, fun y hy e => ?_, fun y hy e => ?_⟩
  · split at h1
    · assumption
    · cases h1
  · obtain ⟨v, hv, rfl⟩ := List.mem_map.mp hp
    have hl := h3 v hv
    show X.N[v]? = some ((k.N[v]?).getD "")
    rw [c.N, List.getElem?_eq_getElem hl]
    rfl
  · have q := h4 y hy
    simp only [e] at q
    split at q
    · rename_i q2
      rcases c.sc _ _ q2 with z | ⟨z, _⟩
      · exact .inl z
      · cases z
    · rename_i q2
      rcases c.sc _ _ q2 with z | ⟨_, z⟩
      · exact .inr z
      · exact .inl z
    · cases q
  · have q := h4 y hy
    have q : (vs.any fun v => decide (k.N[v]? = some y.1)) = true ∨ y.1 ∉ k.N := by
      rcases e with e | e <;> (simp only [e, Bool.or_eq_true, decide_eq_true_eq] at q; exact q)
    rcases q with q | q
    · obtain ⟨v, hv, e2⟩ := List.any_eq_true.mp q
      exact .inl (mem ⟨v, hv, of_decide_eq_true e2⟩)
    · rw [c.N]; exact .inr q

/-! ### the tests of a clause -/
structure Cs where
  den : En → Out Bool
  chk : Ck → List Expr → Bool
  need : Need
  ok : ∀ {X : Cx} {L : Lx} {A : An} {W : WX} {lev : Nat} {k : Ck}, Cxt X L A W lev k → Has X L lev need → ∀ xs, chk k xs = true → PTs X xs (tT (zx X L) A W den)
theorem PTs.weak {X : Cx} {xs : List Expr} {t t' : TT} (h : PTs X xs t) (w : ∀ σ H Q, t' σ H Q → t σ H Q) : PTs X xs t' := ⟨fun pins s σ H Q I q => h.run pins s σ H Q I (w σ H Q q)⟩
def Cs.nil : Cs where
  den := fun ρ => .ok true ρ
  chk := fun _ xs => xs.isEmpty
  need := .nil
  ok := fun {X L A W lev k} c n xs h => by
    cases xs with
    | nil => exact PTs.weak pts_nil fun σ H Q ⟨ρ, O, s, q⟩ => q H O (Ext.refl H O) s
    | cons _ _ => cases h
def Cs.one (e : Ex) : Cs where
  den := e.tst
  chk := fun k xs => match xs with | [x] => e.chk k x | _ => false
  need := e.need
  ok := fun {X L A W lev k} c n xs h => by
    split at h
    · exact pts_one (e.okT c n _ h)
    · cases h

/-! ### the loop -/
def lcGo (vs : List Nat) (tg : D → En → Option En) (cond : En → Out Bool) (elt : En → Out D) : List D → En → Out (List D)
  | [], ρ => .ok [] ρ
  | d :: ds, ρ => match tg d (wipeE ρ vs) with
    | none => .no
    | some ρ1 => (cond ρ1).bind fun b ρ2 => if b = true then (elt ρ2).bind fun y ρ3 => (lcGo vs tg cond elt ds ρ3).bind fun ys ρ4 => .ok (y :: ys) ρ4 else lcGo vs tg cond elt ds ρ2
def Out.clean {α : Type} (o : Out α) : Out α := match o with
  | .er _ _ => .no
  | o => o
theorem Out.post_clean {α : Type} {o : Out α} {Q : α → En → Prop} {R : Xn → En → Prop} (h : o.clean.Post Q R) : o.Post Q (fun _ _ => False) := by
  cases o <;> exact h
def lcD (src : En → Out (List D)) (vs : List Nat) (tg : D → En → Option En) (cond : En → Out Bool) (elt : En → Out D) : En → Out (List D) := fun ρ =>
  (src ρ).bind fun ds ρ1 => if noOwn ρ1 vs = true then (lcGo vs tg cond elt ds ρ1).clean.bind fun ys ρ2 => if ys.length ≤ sizeLine then .ok ys (backE ρ1 vs ρ2) else .no else .no
section
variable {X : Cx} {L : Lx} {A : An} {W : WX} {lev : Nat} {k : Ck}
theorem wipe_eq {σ σ2 : L2.St} {vs sl : List Nat} (hl : σ2.length = (wipe σ vs).length) (h : ∀ i, i ∉ sl → σ2[i]? = (wipe σ vs)[i]?) (hs : ∀ i ∈ sl, i ∈ vs) : wipe σ2 vs = wipe σ vs := by
  refine List.ext_getElem? fun i => ?_
  by_cases hi : i ∈ vs
  · by_cases hlt : i < σ2.length
    · rw [wipe_in hi hlt, wipe_in hi (by rw [← wipe_length σ vs, ← hl]; exact hlt)]
    · have h1 : (wipe σ2 vs)[i]? = none := List.getElem?_eq_none (by rw [wipe_length]; omega)
      have h2 : (wipe σ vs)[i]? = none := List.getElem?_eq_none (by rw [← hl]; omega)
      rw [h1, h2]
  · rw [wipe_out hi, h i (fun z => hi (hs i z))]
/-- a turn's end, as the block tells it -/
def lcT (Z : Zx) (A : An) (σ : L2.St) (vs : List Nat) (p : Addr) (K : List D → En → Prop) (H1 : Hp) (O1 : List Addr) (f : En → Out (List D)) (H : Hp) : Prop :=
  ∃ ρ O acc es, Ext H1 O1 H O ∧ SR Z A H O (wipe σ vs) (wipeE ρ vs) ∧ p ∈ O ∧ H p = some (.lst acc) ∧ Reps Z H O acc es ∧ (∀ (j : Nat) (d : D), (wipeE ρ vs)[j]? = some (.o d) → (wipe σ vs)[j]? ≠ some (some (.ref p))) ∧
    (f ρ).Post (fun ys ρ' => es.length + ys.length ≤ sizeLine ∧ K (es ++ ys) ρ') (fun _ _ => False)
abbrev gAny (Z : Zx) (den : D → En → Option En) (sl : List Nat) : TG := fun v σ H Q => ∃ A, tG Z A den sl v σ H Q
abbrev tAnyT (Z : Zx) (f : En → Out Bool) : TT := fun σ H Q => ∃ A, tT Z A W0 f σ H Q
abbrev tAnyE (Z : Zx) (f : En → Out D) : TE := fun σ H Q => ∃ A, tS Z A W0 f σ H Q
theorem pg_ex {X : Cx} {x : Expr} {t : An → TG} (h : ∀ A, PG X x (t A)) : PG X x (fun v σ H Q => ∃ A, t A v σ H Q) := ⟨fun pins s σ H v u Q I r ⟨A, q⟩ => (h A).run pins s σ H v u Q I r q⟩
theorem pe_ex {X : Cx} {x : Expr} {t : An → TE} (h : ∀ A, PE X x (t A)) : PE X x (fun σ H Q => ∃ A, t A σ H Q) := ⟨fun pins s σ H Q I ⟨A, q⟩ => (h A).run pins s σ H Q I q⟩
theorem pts_ex {X : Cx} {x : List Expr} {t : An → TT} (h : ∀ A, PTs X x (t A)) : PTs X x (fun σ H Q => ∃ A, t A σ H Q) := ⟨fun pins s σ H Q I ⟨A, q⟩ => (h A).run pins s σ H Q I q⟩
theorem post_er {α : Type} {Z : Zx} {A : An} {H : Hp} {O : List Addr} {o : Out α} {Q : α → En → Prop} (h : o.Post Q (fun _ _ => False)) : o.Post Q (ErP Z A W0 H O) := h.mono (fun _ _ z => z) fun _ _ z => z.elim
theorem lc_read {src : Sr} {t : Tg} {cs : Cs} {e : Ex} {vs : List Nat} (hs : ∀ i ∈ t.sl, i ∈ vs) {σ : L2.St} {H : Hp} {Q : VK} (q : tN (zx X L) A W (lcD src.den vs t.den cs.den e.den) σ H Q) :
    tLc (tI (zx X L) A W src.den) (gAny (zx X L) t.den t.sl) (tAnyT (zx X L) cs.den) (tAnyE (zx X L) e.den) vs σ H Q := by
  obtain ⟨ρ, O, s, q⟩ := q
  refine ⟨ρ, O, s, (Out.post_bind q).mono (fun ds ρ1 hk J H1 O1 e1 s1 wk p hp => ?_) fun _ _ z => z⟩
  split at hk
  case isFalse => exact hk.elim
  rename_i hno
  have hk := (Out.post_clean (Out.post_bind hk))
  have hvs : ∀ q ∈ A.io, q.1 ∉ vs := fun q hq z => by
    obtain ⟨_, d, h2⟩ := s1.io q hq
    exact noOwn_at hno z d h2
  have hAp : A.H p = none := by
    cases q : A.H p with
    | none => rfl
    | some u => exact absurd hp (s1.dom p (by rw [q]; exact fun z => nomatch z))
  have hpO : p ∉ O1 := s1.fresh hp
  have hAO : p ∉ A.O := fun z => hpO (s1.sub p z)
  obtain ⟨e2, s2⟩ := s1.grow (xs := []) hp
  -- what is wanted at the end
  let K : List D → En → Prop := fun ys ρ2 => ((if ys.length ≤ sizeLine then Out.ok ys (backE ρ1 vs ρ2) else .no : Out (List D))).Post (fun ds ρ' => ∀ p xs H' O', Ext H O H' O' → A.H p = none → p ∉ A.O → p ∈ O' → (∀ (j : Nat) (d : D), ρ'[j]? = some (.o d) → σ[j]? ≠ some (some (.ref p))) → H' p = some (.lst xs) → SR (zx X L) A H' O' σ ρ' → Reps (zx X L) H' O' xs ds → Q (.ref p) H') (ErP (zx X L) A W H O)
  refine ⟨fun i m H => m = ds.length - i ∧ i ≤ ds.length ∧ lcT (zx X L) A σ vs p K H1 O1 (lcGo vs t.den cs.den e.den (ds.drop i)) H, ⟨ds.length, by simp, Nat.zero_le _, ρ1, p :: O1, [], [], e2, s2.wipe hvs, List.mem_cons_self, upd_same, .nil, fun j d h1 h2 => ?_, ?_⟩, ?_⟩
  · by_cases hj : j ∈ vs
    · have := wipeE_in hj h1
      cases this
    · rw [wipeE_out hj] at h1
      rw [wipe_out hj] at h2
      obtain ⟨a, g1, ⟨_, _, _, g2, _⟩, _⟩ := s1.own j d h1
      rw [h2] at g1
      cases g1
      exact hpO g2
  · refine hk.mono (fun ys ρ2 z => ?_) fun _ _ z => z
    refine ⟨?_, z⟩
    simp only [List.length_nil, Nat.zero_add]
    by_cases hz : ys.length ≤ sizeLine
    · exact hz
    · rw [if_neg hz] at z
      exact z.elim
  rintro i m H3 ⟨rfl, hi, ρ3, O3, acc, es, e3, s3, hpO3, hpH, racc, nown, hw⟩
  obtain ⟨w1, w2, w3⟩ := wk H3 O3 e3 s3.trk
  by_cases hlt : i < ds.length
  case neg =>
    have : i = ds.length := by omega
    subst this
    refine .inl ⟨w2, ?_⟩
    rw [List.drop_length] at hw
    obtain ⟨hz, hK⟩ := hw
    rw [List.append_nil] at hK
    have hz : es.length ≤ sizeLine := hz
    have hK : (if es.length ≤ sizeLine then Out.ok es (backE ρ1 vs ρ3) else .no : Out (List D)).Post _ _ := hK
    rw [if_pos hz] at hK
    have sb := s3.back s1 e3 hno
    refine hK p acc H3 O3 (e1.trans e3) hAp hAO hpO3 (fun j d h1 h2 => ?_) hpH sb racc
    by_cases hj : j ∈ vs
    · have z := backE_in hj h1
      cases q : ρ1[j]? with
      | none => rw [q] at z; cases z
      | some u =>
        rw [q] at z
        have z : Sl.o d = u := z
        exact noOwn_at hno hj d (by rw [q, z])
    · rw [backE_out hj, ← wipeE_out hj] at h1
      rw [← wipe_out hj] at h2
      exact nown j d h1 h2
  refine .inr ⟨w1 i hlt, lcT (zx X L) A σ vs p K H1 O1 (lcGo vs t.den cs.den e.den (ds.drop (i + 1))), fun H' w => ⟨ds.length - (i + 1), by omega, rfl, hlt, w⟩, fun v H4 y => ?_⟩
  have hdr : ds.drop i = ds[i] :: ds.drop (i + 1) := (List.getElem_cons_drop hlt).symm
  rw [hdr] at hw
  obtain ⟨sm, rv⟩ := w3 i v H4 ds[i] (List.getElem?_eq_getElem hlt) y
  have hw : (match t.den ds[i] (wipeE ρ3 vs) with
    | none => Out.no
    | some ρ1 => (cs.den ρ1).bind fun b ρ2 => if b = true then (e.den ρ2).bind fun y ρ3 => (lcGo vs t.den cs.den e.den (ds.drop (i + 1)) ρ3).bind fun ys ρ4 => .ok (y :: ys) ρ4 else lcGo vs t.den cs.den e.den (ds.drop (i + 1)) ρ2 : Out (List D)).Post (fun ys ρ' => es.length + ys.length ≤ sizeLine ∧ K (es ++ ys) ρ') (fun _ _ => False) := hw
  split at hw
  · exact hw.elim
  rename_i ρ4 htd
  have s4 := s3.same sm
  have x4 := Ext.same (O := O3) sm
  -- from here on all is told from a beginning of its own: what the block changes is then known
  have hpW : p ∉ (here H4 O3 (wipe σ vs) (wipeE ρ3 vs)).W := fun z => by
    obtain ⟨j, d, g1, g2⟩ := here_W.mp z
    exact nown j d g1 g2
  have keep : ∀ {H5 : Hp} {O5 : List Addr} {σ2 : L2.St} {ρ5 : En}, SR (zx X L) (here H4 O3 (wipe σ vs) (wipeE ρ3 vs)) H5 O5 σ2 ρ5 → wipe σ2 vs = wipe σ vs → SR (zx X L) A H5 O5 (wipe σ vs) (wipeE ρ5 vs) ∧ p ∈ O5 ∧ H5 p = some (.lst acc) ∧ (∀ (j : Nat) (d : D), (wipeE ρ5 vs)[j]? = some (.o d) → (wipe σ vs)[j]? ≠ some (some (.ref p))) := fun {H5 O5 σ2 ρ5} s5 hw5 => by
    have hp5 := s5.anc p (.lst acc) (sm _ _ hpH) hpW (fun ps z => nomatch z)
    refine ⟨?_, s5.sub p hpO3, hp5, fun j d g1 g2 => ?_⟩
    · rw [← hw5]
      exact (s4.un s5).wipe hvs
    · rw [← hw5] at g2
      by_cases hj : j ∈ vs
      · have := wipeE_in hj g1
        cases this
      · rw [wipeE_out hj] at g1
        rw [wipe_out hj] at g2
        obtain ⟨a, q1, _, q2⟩ := s5.own j d g1
        rw [g2] at q1
        cases q1
        rcases q2 with q2 | ⟨q2, _⟩
        · exact hpW q2
        · rw [show (here H4 O3 (wipe σ vs) (wipeE ρ3 vs)).H p = H4 p from rfl, sm _ _ hpH] at q2
          cases q2
  refine ⟨here H4 O3 (wipe σ vs) (wipeE ρ3 vs), wipeE ρ3 vs, O3, ds[i], ρ4, s4.re, rv, htd, fun σ2 H5 O5 e5 s5 l5 g5 => ?_⟩
  have hw5 : wipe σ2 vs = wipe σ vs := wipe_eq l5 g5 hs
  refine ⟨hw5, _, ρ4, O5, s5, (Out.post_bind hw).mono (fun b ρ6 hk6 H6 O6 e6 s6 => ?_) fun _ _ z => z.elim⟩
  obtain ⟨sA6, hp6, hpH6, no6⟩ := keep s6 hw5
  have x6 : Ext H1 O1 H6 O6 := ((e3.trans x4).trans e5).trans e6
  cases b with
  | false =>
    rw [if_neg Bool.false_ne_true] at hk6 ⊢
    exact ⟨ρ6, O6, acc, es, x6, sA6, hp6, hpH6, racc.ext ((x4.trans e5).trans e6), no6, hk6⟩
  | true =>
    rw [if_pos rfl] at hk6 ⊢
    refine ⟨_, ρ6, O6, s6, (Out.post_bind hk6).mono (fun y ρ7 hk7 w H7 O7 e7 s7 rw7 => ?_) fun _ _ z => z.elim⟩
    obtain ⟨sA7, hp7, hpH7, no7⟩ := keep s7 hw5
    have hk7 := Out.post_bind hk7
    have rac7 : Reps (zx X L) H7 O7 (acc ++ [w]) (es ++ [y]) := (racc.ext (((x4.trans e5).trans e6).trans e7)).append (.cons rw7 .nil)
    have hlen : acc.length < sizeLine := by
      have hb : ∀ {o : Out (List D)}, o.Post (fun ys ρ' => es.length + (y :: ys).length ≤ sizeLine ∧ K (es ++ y :: ys) ρ') (fun _ _ => False) → acc.length < sizeLine := fun {o} z => by
        cases o with
        | no => exact z.elim
        | er _ _ => exact z.elim
        | ok ys ρ' =>
          have z1 := z.1
          rw [List.length_cons] at z1
          rw [racc.length]
          omega
      exact hb hk7
    obtain ⟨e8, s8⟩ := sA7.poke (ys := acc ++ [w]) hp7 hAp hpH7 no7
    refine ⟨acc, hpH7, hlen, ρ7, O7, acc ++ [w], es ++ [y], (x6.trans e7).trans e8, s8, hp7, upd_same, rac7.ext e8, no7, hk7.mono (fun ys ρ' z => ?_) fun _ _ z => z⟩
    have z : es.length + (y :: ys).length ≤ sizeLine ∧ K (es ++ y :: ys) ρ' := z
    rw [List.length_append, List.append_assoc]
    simp only [List.length_cons, List.length_nil] at z ⊢
    exact ⟨by omega, z.2⟩
end
end Ev
set_option Elab.async false
set_option maxRecDepth 100000
set_option maxHeartbeats 4000000
/-! EvK: statements. -/
namespace Ev
open PySem PySem.Spec PyProof.Rows L2

structure SCxt (X : Cx) (L : Lx) (A : An) (W : WX) (lev : Nat) (k : Ck) : Prop where
  cx : Cxt X L A W lev k
  kind : X.env.scope.kind = .function
  nms : X.env.scope.names = k.ns
  io : A.io.map (·.1) = k.io

/-! ### outcomes of statements -/
inductive So where
  | no | nx (ρ : En) | bk (ρ : En) | ct (ρ : En) | rt (d : D) (ρ : En) | rf (ds : List D) (ρ : En) | er (x : Xn) (ρ : En)
def SoP (Z : Zx) (A : An) (W : WX) (E : Ends) (H : Hp) (O : List Addr) : So → Prop
  | .no => False
  | .nx ρ => ∀ σ H' O', Ext H O H' O' → SR Z A H' O' σ ρ → E.nx σ H'
  | .bk ρ => ∀ σ H' O', Ext H O H' O' → SR Z A H' O' σ ρ → E.bk σ H'
  | .ct ρ => ∀ σ H' O', Ext H O H' O' → SR Z A H' O' σ ρ → E.ct σ H'
  | .rt d ρ => ∀ v σ H' O', Ext H O H' O' → SR Z A H' O' σ ρ → Rep Z H' O' v d → E.rt v H'
  | .rf ds ρ => ∀ p xs σ H' O', Ext H O H' O' → A.H p = none → p ∉ A.O → p ∈ O' → p ∉ A.W → H' p = some (.lst xs) → SR Z A H' O' σ ρ → Reps Z H' O' xs ds → E.rt (.ref p) H'
  | .er x ρ => ErP Z A W H O x ρ
def tSt (Z : Zx) (A : An) (W : WX) (f : En → So) : TS := fun E σ H => ∃ ρ O, SR Z A H O σ ρ ∧ SoP Z A W E H O (f ρ)
theorem SoP.ext {Z : Zx} {A : An} {W : WX} {E : Ends} {H H1 : Hp} {O O1 : List Addr} {r : So} (e : Ext H O H1 O1) (h : SoP Z A W E H O r) : SoP Z A W E H1 O1 r := by
  cases r with
  | no => exact h
  | nx ρ => exact fun σ H' O' e' => h σ H' O' (e.trans e')
  | bk ρ => exact fun σ H' O' e' => h σ H' O' (e.trans e')
  | ct ρ => exact fun σ H' O' e' => h σ H' O' (e.trans e')
  | rt d ρ => exact fun v σ H' O' e' => h v σ H' O' (e.trans e')
  | rf ds ρ => exact fun p xs σ H' O' e' => h p xs σ H' O' (e.trans e')
  | er x ρ => exact ErP.ext e h
/-- what follows a statement that ends -/
def So.next (o : So) (k : En → So) : So := match o with
  | .nx ρ => k ρ
  | o => o
/-- first an expression -/
def So.after {α : Type} (o : Out α) (k : α → En → So) : So := match o with
  | .no => .no
  | .ok a ρ => k a ρ
  | .er x ρ => .er x ρ
theorem after_post {α : Type} {Z : Zx} {A : An} {W : WX} {E : Ends} {H : Hp} {O : List Addr} {o : Out α} {k : α → En → So} (h : SoP Z A W E H O (So.after o k)) : o.Post (fun a ρ => SoP Z A W E H O (k a ρ)) (ErP Z A W H O) := by
  cases o <;> exact h
structure Sm where
  den : En → So
  chk : Ck → Stmt → Bool
  need : Need
  ok : ∀ {X : Cx} {L : Lx} {A : An} {W : WX} {lev : Nat} {k : Ck}, SCxt X L A W lev k → Has X L lev need → ∀ x, chk k x = true → PS X x (tSt (zx X L) A W den)
structure Bl where
  den : En → So
  chk : Ck → List Stmt → Bool
  need : Need
  ok : ∀ {X : Cx} {L : Lx} {A : An} {W : WX} {lev : Nat} {k : Ck}, SCxt X L A W lev k → Has X L lev need → ∀ xs, chk k xs = true → PSs X xs (tSt (zx X L) A W den)
def Bl.nil : Bl where
  den := fun ρ => .nx ρ
  chk := fun _ xs => xs.isEmpty
  need := .nil
  ok := fun {X L A W lev k} c n xs h => by
    cases xs with
    | nil => exact PSs.weak pss_nil fun E σ H ⟨ρ, O, s, q⟩ => q σ H O (Ext.refl H O) s
    | cons _ _ => cases h
def Bl.cons (a : Sm) (r : Bl) : Bl where
  den := fun ρ => (a.den ρ).next r.den
  chk := fun k xs => match xs with | x :: xs => a.chk k x && r.chk k xs | [] => false
  need := a.need.app r.need
  ok := fun {X L A W lev k} c n xs h => by
    cases xs with
    | nil => cases h
    | cons x xs =>
      have h : (a.chk k x && r.chk k xs) = true := h
      rw [Bool.and_eq_true] at h
      refine PSs.weak (pss_cons (a.ok c n.left x h.1) (r.ok c n.right xs h.2)) fun E σ H ⟨ρ, O, s, q⟩ => ⟨ρ, O, s, ?_⟩
      dsimp only at q
      cases e : a.den ρ with
      | nx ρ1 =>
        rw [e] at q
        exact fun σ1 H1 O1 e1 s1 => ⟨ρ1, O1, s1, SoP.ext e1 q⟩
      | _ => rw [e] at q; exact q
/-- the same, its place in a block told by how the text goes on -/
def Sm.one (a : Sm) : Bl := .cons a .nil

/-! ### plain statements -/
def Sm.pass : Sm where
  den := fun ρ => .nx ρ
  chk := fun _ x => match x with | .Pass _ => true | _ => false
  need := .nil
  ok := fun {X L A W lev k} c n x h => by
    split at h
    · exact PS.weak ps_pass fun E σ H ⟨ρ, O, s, q⟩ => q σ H O (Ext.refl H O) s
    · cases h
def Sm.brk : Sm where
  den := fun ρ => .bk ρ
  chk := fun _ x => match x with | .Break _ => true | _ => false
  need := .nil
  ok := fun {X L A W lev k} c n x h => by
    split at h
    · exact PS.weak ps_break fun E σ H ⟨ρ, O, s, q⟩ => q σ H O (Ext.refl H O) s
    · cases h
def Sm.cont : Sm where
  den := fun ρ => .ct ρ
  chk := fun _ x => match x with | .Continue _ => true | _ => false
  need := .nil
  ok := fun {X L A W lev k} c n x h => by
    split at h
    · exact PS.weak ps_continue fun E σ H ⟨ρ, O, s, q⟩ => q σ H O (Ext.refl H O) s
    · cases h
/-- a text alone: a docstring -/
def Sm.doc : Sm where
  den := fun ρ => .nx ρ
  chk := fun _ x => match x with | .Expr (.Constant (.str _) _ _) _ => true | _ => false
  need := .nil
  ok := fun {X L A W lev k} c n x h => by
    split at h
    · exact PS.weak ps_doc fun E σ H ⟨ρ, O, s, q⟩ => q σ H O (Ext.refl H O) s
    · cases h
def Sm.ret (e : Ex) : Sm where
  den := fun ρ => So.after (e.den ρ) fun d ρ1 => .rt d ρ1
  chk := fun k x => match x with | .Return (some x) _ => e.chk k x | _ => false
  need := e.need
  ok := fun {X L A W lev k} c n x h => by
    split at h
    · refine PS.weak (ps_ret (e.ok c.cx n _ h)) fun E σ H ⟨ρ, O, s, q⟩ => ⟨ρ, O, s, (after_post q).mono (fun d ρ1 z v H' O' e' s' r => z v σ H' O' e' s' r) fun _ _ z => z⟩
    · cases h
def Sm.retN : Sm where
  den := fun ρ => .rt .non ρ
  chk := fun k x => match x with | .Return none _ => true | _ => false
  need := .nil
  ok := fun {X L A W lev k} c n x h => by
    split at h
    · exact PS.weak ps_retN fun E σ H ⟨ρ, O, s, q⟩ => q .non σ H O (Ext.refl H O) s .non
    · cases h
/-- return of an own list of the frame: a new one for the caller -/
def retO (i : Nat) (ρ : En) : So := match ρ[i]? with
  | some (.o (.lst ds)) => .rf ds ρ
  | _ => .no
def Sm.retO (i : Nat) : Sm where
  den := Ev.retO i
  chk := fun k x => match x with | .Return (some (.Name y _)) _ => k.vis i y && !k.io.contains i | _ => false
  need := .nil
  ok := fun {X L A W lev k} c n x h => by
    split at h
    · rw [Bool.and_eq_true] at h
      obtain ⟨c1, c2, c3, c4⟩ := c.cx.visOk h.1
      refine PS.weak (ps_ret (pe_var c1 c2 c3 c4)) fun E σ H ⟨ρ, O, s, q⟩ => ?_
      unfold Ev.retO at q
      split at q
      · rename_i ds hi
        obtain ⟨a, h1, ⟨xs, es, h2, h3, h4, h5⟩, h6⟩ := s.own i _ hi
        cases h2
        have hio : i ∉ A.io.map (·.1) := by
          rw [c.io]
          have := h.2
          simpa using this
        have hw : a ∉ A.W := fun z => by
          unfold An.W at z
          obtain ⟨p, hp, rfl⟩ := List.mem_map.mp z
          obtain ⟨g1, d, g2⟩ := s.io p hp
          exact hio (List.mem_map.mpr ⟨p, hp, (s.sep i p.1 _ d p.2 hi g2 h1 g1).symm⟩)
        refine ⟨.ref a, h1, ?_⟩
        rcases h6 with z | ⟨z1, z2⟩
        · exact absurd z hw
        · exact q a xs σ H O (Ext.refl H O) z1 z2 h3 hw h4 s h5
      · exact q.elim
    · cases h
theorem blockKind_of {env : PySem.Env} (h : env.scope.kind = .function) : env.blockKind = .function := by unfold Env.blockKind; rw [h]; rfl
def isComp : Expr → Bool
  | .ListComp _ _ _ _ => true
  | .SetComp _ _ _ _ => true
  | .DictComp _ _ _ _ _ => true
  | _ => false
theorem sw_plain {e : Expr} {t : Option Expr} {l : Nat} {env : PySem.Env} (h : isComp e = false) : swapsWith e t l env = pure false := by
  cases e <;> first | rfl | cases h
/-- an expression, its value dropped -/
def Sm.expr (e : Ex) : Sm where
  den := fun ρ => So.after (e.den ρ) fun _ ρ1 => .nx ρ1
  chk := fun k x => match x with | .Expr x _ => !isComp x && e.chk k x | _ => false
  need := e.need
  ok := fun {X L A W lev k} c n x h => by
    split at h
    · rw [Bool.and_eq_true, Bool.not_eq_true'] at h
      refine PS.weak (ps_expr (e.ok c.cx n _ h.2) (sw_plain h.1)) fun E σ H ⟨ρ, O, s, q⟩ => ⟨ρ, O, s, (after_post q).mono (fun d ρ1 z v H' O' e' s' r => z σ H' O' e' s') fun _ _ z => z⟩
    · cases h
/-- name = value -/
def Sm.set (i : Nat) (e : Ex) : Sm where
  den := fun ρ => So.after (e.den ρ) fun d ρ1 => match nameD i d ρ1 with | some ρ2 => .nx ρ2 | none => .no
  chk := fun k x => match x with | .Assign [.Name y _] x _ => k.loc i y && !isComp x && e.chk k x | _ => false
  need := e.need
  ok := fun {X L A W lev k} c n x h => by
    split at h
    · simp only [Bool.and_eq_true, Bool.not_eq_true'] at h
      obtain ⟨⟨h1, h2⟩, h3⟩ := h
      obtain ⟨g1, g2, g3⟩ := c.cx.locOk h1
      refine PS.weak (ps_set (by rw [c.cx.N]; exact c.cx.nd) g1 g2 (e.ok c.cx n _ h3) (sw_plain h2) g3) fun E σ H ⟨ρ, O, s, q⟩ => ⟨ρ, O, s, (after_post q).mono (fun d ρ1 z v H' O' e' s' r => ?_) fun _ _ z => z⟩
      cases hd : nameD i d ρ1 with
      | none => rw [hd] at z; exact z.elim
      | some ρ2 =>
        rw [hd] at z
        obtain ⟨rfl, hno⟩ := nameD_spec hd
        exact z _ H' O' e' (s'.setV (s'.notIo hno) r)
    · cases h
/-- target = value, the target a tuple or an item of an own list -/
def notTup : Expr → Bool
  | .Tuple _ _ _ => false
  | _ => true
def Sm.asg (t : Tg) (e : Ex) : Sm where
  den := fun ρ => So.after (e.den ρ) fun d ρ1 => match t.den d ρ1 with | some ρ2 => .nx ρ2 | none => .no
  chk := fun k x => match x with
    | .Assign [.Subscript o i p] x _ => !isComp x && t.chk k (.Subscript o i p) && e.chk k x
    | .Assign [.Tuple es kk p] x _ => !isComp x && notTup x && t.chk k (.Tuple es kk p) && e.chk k x
    | _ => false
  need := t.need.app e.need
  ok := fun {X L A W lev k} c n x h => by
    have fin : ∀ {E : Ends} {σ : L2.St} {H : Hp}, tSt (zx X L) A W (fun ρ => So.after (e.den ρ) fun d ρ1 => match t.den d ρ1 with | some ρ2 => .nx ρ2 | none => .no) E σ H → tAsg (tS (zx X L) A W e.den) (tG (zx X L) A t.den t.sl) E σ H := fun {E σ H} ⟨ρ, O, s, q⟩ => ⟨ρ, O, s, (after_post q).mono (fun d ρ1 z v H' O' e' s' r => by
      cases hd : t.den d ρ1 with
      | none => rw [hd] at z; exact z.elim
      | some ρ2 =>
        rw [hd] at z
        exact ⟨ρ1, O', d, ρ2, s', r, hd, fun σ2 H2 O2 e2 s2 _ _ => z σ2 H2 O2 (e'.trans e2) s2⟩) fun _ _ z => z⟩
    split at h
    · simp only [Bool.and_eq_true, Bool.not_eq_true'] at h
      obtain ⟨⟨h2, h1⟩, h3⟩ := h
      exact PS.weak (ps_asg (e.ok c.cx n.right _ h3) (t.ok c.cx n.left _ h1) (by unfold swapsWithSole; exact sw_plain h2) rfl rfl) fun E σ H q => fin q
    · simp only [Bool.and_eq_true, Bool.not_eq_true'] at h
      obtain ⟨⟨⟨h2, h0⟩, h1⟩, h3⟩ := h
      refine PS.weak (ps_asg (e.ok c.cx n.right _ h3) (t.ok c.cx n.left _ h1) (by unfold swapsWithSole; exact sw_plain h2) ?_ rfl) fun E σ H q => fin q
      rename_i es kk p y _
      cases y <;> first | rfl | cases h0
    · cases h
/-! ### if, for, while -/
def Sm.ifs (e : Ex) (a b : Bl) : Sm where
  den := fun ρ => So.after (e.tst ρ) fun t ρ1 => if t = true then a.den ρ1 else b.den ρ1
  chk := fun k x => match x with | .If x ss ts _ => e.chk k x && a.chk k ss && b.chk k ts | _ => false
  need := e.need.app (a.need.app b.need)
  ok := fun {X L A W lev k} c n x h => by
    split at h
    · simp only [Bool.and_eq_true] at h
      obtain ⟨⟨h1, h2⟩, h3⟩ := h
      refine PS.weak (ps_if (e.okT c.cx n.left _ h1) (a.ok c n.right.left _ h2) (b.ok c n.right.right _ h3)) fun E σ H ⟨ρ, O, s, q⟩ => ⟨ρ, O, s, (after_post q).mono (fun t ρ1 z H' O' e' s' => ?_) fun _ _ z => z⟩
      cases t with
      | true => rw [if_pos rfl] at z ⊢; exact ⟨ρ1, O', s', SoP.ext e' z⟩
      | false => rw [if_neg Bool.false_ne_true] at z ⊢; exact ⟨ρ1, O', s', SoP.ext e' z⟩
    · cases h
/-- the turns of a for -/
def forGo (tg : D → En → Option En) (body : En → So) : List D → En → So
  | [], ρ => .nx ρ
  | d :: ds, ρ => match tg d ρ with
    | none => .no
    | some ρ1 => match body ρ1 with
      | .nx ρ2 => forGo tg body ds ρ2
      | .ct ρ2 => forGo tg body ds ρ2
      | .bk ρ2 => .nx ρ2
      | o => o
def Sm.for_ (t : Tg) (r : Sr) (b : Bl) : Sm where
  den := fun ρ => So.after (r.den ρ) fun ds ρ1 => forGo t.den b.den ds ρ1
  chk := fun k x => match x with | .For tg it body [] _ => r.chk k tg it && t.chk k tg && b.chk k body | _ => false
  need := t.need.app (r.need.app b.need)
  ok := fun {X L A W lev k} c n x h => by
    split at h
    · rename_i tg it body pos
      simp only [Bool.and_eq_true] at h
      obtain ⟨⟨h1, h2⟩, h3⟩ := h
      refine PS.weak (ps_for c.cx.po c.cx.calm (r.ok c.cx n.right.left tg it h1) (t.ok c.cx n.left tg h2) (b.ok c n.right.right body h3) (fun v => fold_of (r.fd k tg it h1) _ v)) fun E σ H ⟨ρ, O, s, q⟩ => ⟨ρ, O, s, (after_post q).mono (fun ds ρ1 z J H1 O1 e1 s1 wk => ?_) fun _ _ z => z⟩
      have z := SoP.ext e1 z
      refine ⟨fun i m σ H => m = ds.length - i ∧ i ≤ ds.length ∧ ∃ ρ O, Ext H1 O1 H O ∧ SR (zx X L) A H O σ ρ ∧ SoP (zx X L) A W E H1 O1 (forGo t.den b.den (ds.drop i) ρ), ⟨ds.length, by simp, Nat.zero_le _, ρ1, O1, Ext.refl _ _, s1, z⟩, ?_⟩
      rintro i m σ2 H2 ⟨rfl, hi, ρ2, O2, e2, s2, z2⟩
      obtain ⟨w1, w2, w3⟩ := wk H2 O2 e2 s2.trk
      by_cases hlt : i < ds.length
      case neg =>
        have : i = ds.length := by omega
        subst this
        refine .inl ⟨w2, ?_⟩
        rw [List.drop_length] at z2
        exact z2 σ2 H2 O2 e2 s2
      refine .inr ⟨w1 i hlt, fun σ' H' => ∃ ρ O, Ext H1 O1 H' O ∧ SR (zx X L) A H' O σ' ρ ∧ SoP (zx X L) A W E H1 O1 (forGo t.den b.den (ds.drop (i + 1)) ρ), fun σ' H' w => ⟨ds.length - (i + 1), by omega, rfl, hlt, w⟩, fun v H3 y => ?_⟩
      rw [(List.getElem_cons_drop hlt).symm] at z2
      obtain ⟨sm, rv⟩ := w3 i v H3 ds[i] (List.getElem?_eq_getElem hlt) y
      unfold forGo at z2
      split at z2
      · exact z2.elim
      rename_i ρ3 ht
      refine ⟨ρ2, O2, ds[i], ρ3, s2.same sm, rv, ht, fun σ4 H4 O4 e4 s4 _ _ => ⟨ρ3, O4, s4, ?_⟩⟩
      have e14 : Ext H1 O1 H4 O4 := (e2.trans (Ext.same sm)).trans e4
      cases hb : b.den ρ3 with
      | no => rw [hb] at z2; exact z2
      | nx ρ5 =>
        rw [hb] at z2
        exact fun σ5 H5 O5 e5 s5 => ⟨ρ5, O5, e14.trans e5, s5, z2⟩
      | ct ρ5 =>
        rw [hb] at z2
        exact fun σ5 H5 O5 e5 s5 => ⟨ρ5, O5, e14.trans e5, s5, z2⟩
      | bk ρ5 =>
        rw [hb] at z2
        exact fun σ5 H5 O5 e5 s5 => z2 σ5 H5 O5 (e14.trans e5) s5
      | rt d ρ5 =>
        rw [hb] at z2
        exact fun v σ5 H5 O5 e5 s5 r5 => z2 v σ5 H5 O5 (e14.trans e5) s5 r5
      | rf d ρ5 =>
        rw [hb] at z2
        exact fun p xs σ5 H5 O5 e5 => z2 p xs σ5 H5 O5 (e14.trans e5)
      | er x ρ5 =>
        rw [hb] at z2
        exact ErP.ext e14 z2
    · cases h
/-- the turns of a while, at most so many -/
def whileGo (test : En → Out Bool) (body : En → So) : Nat → En → So
  | 0, _ => .no
  | n + 1, ρ => So.after (test ρ) fun t ρ1 => if t = true then (match body ρ1 with
      | .nx ρ2 => whileGo test body n ρ2
      | .ct ρ2 => whileGo test body n ρ2
      | .bk ρ2 => .nx ρ2
      | o => o) else .nx ρ1
def Sm.while_ (fuel : Nat) (e : Ex) (b : Bl) : Sm where
  den := whileGo e.tst b.den fuel
  chk := fun k x => match x with | .While x body [] _ => e.chk k x && b.chk k body | _ => false
  need := e.need.app b.need
  ok := fun {X L A W lev k} c n x h => by
    split at h
    · rename_i x body pos
      rw [Bool.and_eq_true] at h
      refine PS.weak (ps_while c.cx.po (e.okT c.cx n.left _ h.1) (b.ok c n.right body h.2)) fun E σ H ⟨ρ, O, s, q⟩ => ?_
      refine ⟨fun m σ' H' => ∃ ρ' O', Ext H O H' O' ∧ SR (zx X L) A H' O' σ' ρ' ∧ SoP (zx X L) A W E H O (whileGo e.tst b.den m ρ'), ⟨fuel, ρ, O, Ext.refl _ _, s, q⟩, ?_⟩
      rintro m σ2 H2 ⟨ρ2, O2, e2, s2, z2⟩
      cases m with
      | zero => exact z2.elim
      | succ m =>
        unfold whileGo at z2
        refine ⟨ρ2, O2, s2, (after_post z2).mono (fun t ρ3 z H3 O3 e3 s3 => ?_) fun x ρ3 z => ErP.ext e2 z⟩
        cases t with
        | false =>
          rw [if_neg Bool.false_ne_true] at z ⊢
          exact z σ2 H3 O3 (e2.trans e3) s3
        | true =>
          rw [if_pos rfl] at z ⊢
          refine ⟨fun σ' H' => ∃ ρ' O', Ext H O H' O' ∧ SR (zx X L) A H' O' σ' ρ' ∧ SoP (zx X L) A W E H O (whileGo e.tst b.den m ρ'), fun σ' H' w => ⟨m, Nat.lt_succ_self m, w⟩, ρ3, O3, s3, ?_⟩
          have e14 : Ext H O H3 O3 := e2.trans e3
          cases hb : b.den ρ3 with
          | no => rw [hb] at z; exact z
          | nx ρ5 =>
            rw [hb] at z
            exact fun σ5 H5 O5 e5 s5 => ⟨ρ5, O5, e14.trans e5, s5, z⟩
          | ct ρ5 =>
            rw [hb] at z
            exact fun σ5 H5 O5 e5 s5 => ⟨ρ5, O5, e14.trans e5, s5, z⟩
          | bk ρ5 =>
            rw [hb] at z
            exact fun σ5 H5 O5 e5 s5 => z σ5 H5 O5 (e14.trans e5) s5
          | rt d ρ5 =>
            rw [hb] at z
            exact fun v σ5 H5 O5 e5 s5 r5 => z v σ5 H5 O5 (e14.trans e5) s5 r5
          | rf d ρ5 =>
            rw [hb] at z
            exact fun p xs σ5 H5 O5 e5 => z p xs σ5 H5 O5 (e14.trans e5)
          | er x ρ5 =>
            rw [hb] at z
            exact ErP.ext e14 z
    · cases h
end Ev
set_option Elab.async false
set_option maxRecDepth 100000
set_option maxHeartbeats 4000000
/-! EvL: new lists that the frame keeps for itself; several names at once. -/
namespace Ev
open PySem PySem.Spec PyProof.Rows L2

/-! ### an expression whose value is a new list -/
structure Fx where
  den : En → Out (List D)
  chk : Ck → Expr → Bool
  need : Need
  ok : ∀ {X : Cx} {L : Lx} {A : An} {W : WX} {lev : Nat} {k : Ck}, Cxt X L A W lev k → Has X L lev need → ∀ x, chk k x = true → PE X x (tN (zx X L) A W den)
  pl : ∀ k x, chk k x = true → plainTest x = true
  set : ∀ {X : Cx} {L : Lx} {A : An} {W : WX} {lev : Nat} {k : Ck}, SCxt X L A W lev k → Has X L lev need → ∀ x, chk k x = true → ∀ i y py pos, k.loc i y = true → PS X (.Assign [.Name y py] x pos) (tAsg (tN (zx X L) A W den) (gName i))
theorem set_plainF {X : Cx} {L : Lx} {A : An} {W : WX} {lev : Nat} {k : Ck} (c : SCxt X L A W lev k) {x : Expr} {t : TE} (h : PE X x t) (hp : isComp x = false) (i : Nat) (y : Str) (py pos : Pos) (hl : k.loc i y = true) : PS X (.Assign [.Name y py] x pos) (tAsg t (gName i)) := by
  obtain ⟨g1, g2, g3⟩ := c.cx.locOk hl
  exact ps_set (by rw [c.cx.N]; exact c.cx.nd) g1 g2 h (sw_plain hp) g3
/-- as a value -/
def Ex.new (f : Fx) : Ex := .plain (fun ρ => (f.den ρ).bind fun ds ρ1 => .ok (.lst ds) ρ1) f.chk f.need (fun {X L A W lev k} c n x h => PE.weak (f.ok c n x h) fun σ H Q q => tN_val q) f.pl
/-- [a, b, ..] -/
def Fx.lst (a : As) : Fx where
  den := fun ρ => (a.den ρ).bind fun ds ρ1 => if ds.length ≤ sizeLine then .ok ds ρ1 else .no
  chk := fun k x => match x with | .List es _ => a.chk k es | _ => false
  need := a.need
  ok := fun {X L A W lev k} c n x h => by
    split at h
    · refine PE.weak (pe_lst (a.ok c n _ h)) fun σ H Q ⟨ρ, O, s, q⟩ => ?_
      refine tA_bind s q fun ds ρ1 vs H1 O1 e1 s1 r1 hk => ?_
      split at hk
      · rename_i hz
        refine ⟨by rw [r1.length]; exact hz, fun p hp => ?_⟩
        obtain ⟨e2, s2⟩ := s1.grow (xs := vs) hp
        have hpO := s1.fresh hp
        have hA : A.H p = none := by
          cases q : A.H p with
          | none => rfl
          | some u => exact absurd hp (s1.dom p (by rw [q]; exact fun z => nomatch z))
        exact hk p vs _ _ (e1.trans e2) hA (fun z => hpO (s1.sub p z)) List.mem_cons_self (fun j d g1 g2 => by
          obtain ⟨a, q1, ⟨_, _, _, q2, _⟩, _⟩ := s1.own j d g1
          rw [g2] at q1
          cases q1
          exact hpO q2) upd_same s2 (r1.ext e2)
      · exact hk.elim
    · cases h
  pl := fun k x h => by split at h <;> first | rfl | cases h
  set := fun {X L A W lev k} c n x h i y py pos hl => by
    split at h
    · refine set_plainF c ?_ rfl i y py pos hl
      refine PE.weak (pe_lst (a.ok c.cx n _ h)) fun σ H Q ⟨ρ, O, s, q⟩ => ?_
      refine tA_bind s q fun ds ρ1 vs H1 O1 e1 s1 r1 hk => ?_
      split at hk
      · rename_i hz
        refine ⟨by rw [r1.length]; exact hz, fun p hp => ?_⟩
        obtain ⟨e2, s2⟩ := s1.grow (xs := vs) hp
        have hpO := s1.fresh hp
        have hA : A.H p = none := by
          cases q : A.H p with
          | none => rfl
          | some u => exact absurd hp (s1.dom p (by rw [q]; exact fun z => nomatch z))
        exact hk p vs _ _ (e1.trans e2) hA (fun z => hpO (s1.sub p z)) List.mem_cons_self (fun j d g1 g2 => by
          obtain ⟨a, q1, ⟨_, _, _, q2, _⟩, _⟩ := s1.own j d g1
          rw [g2] at q1
          cases q1
          exact hpO q2) upd_same s2 (r1.ext e2)
      · exact hk.elim
    · cases h
/-- a call of a def that returns a new list -/
def callF (F : FSem) (ar : Ar) : En → Out (List D) := fun ρ => (callD F ar ρ).bind fun d ρ1 => match d with | .lst ds => if F.fresh = true then .ok ds ρ1 else .no | _ => .no
theorem callF_read {X : Cx} {L : Lx} {A : An} {W : WX} {F : FSem} {ar : Ar} (hf : ownFits F ar.own = true) {σ : L2.St} {H : Hp} {Q : VK} (q : tN (zx X L) A W (callF F ar) σ H Q) : tAr (zx X L) A W ar.own ar.den σ H fun vs H1 => spOf (zx X L) F vs H1 Q (WE W σ) := by
  obtain ⟨ρ, O, s, q⟩ := q
  have q := Out.post_bind q
  refine tAr_bind s q fun ds ρ1 vs H1 O1 e1 s1 r1 hk => ?_
  obtain ⟨hl, hk⟩ := callD_split hk
  refine call_sp s1 hf hl r1 hk fun d ρ' hd => ⟨fun es hfr hes p xs H' e' hp np hp' s' s2 rs => ?_, fun hfr v H' e' s' rv => ?_⟩
  · subst hes
    dsimp only at hd
    rw [if_pos hfr] at hd
    have hA : A.H p = none := by
      cases q : A.H p with
      | none => rfl
      | some u => exact absurd hp (s1.dom p (by rw [q]; exact fun z => nomatch z))
    have ex : Ext H O H' (p :: O1) := (e1.trans (Ext.new hp)).trans (by
      refine fun b u hb nb nt => ?_
      have hb1 : b ∉ O1 := fun z => nb (List.mem_cons_of_mem _ z)
      exact ⟨(e' b u hb hb1 nt).1, nb⟩)
    exact hd p xs H' (p :: O1) ex hA (fun z => np (s1.sub p z)) List.mem_cons_self (fun j d g1 g2 => by
      obtain ⟨a, q1, ⟨_, _, _, q2, _⟩, _⟩ := s'.own j d g1
      rw [g2] at q1
      cases q1
      exact np q2) hp' s2 rs
  · split at hd
    · rw [if_neg (by rw [hfr]; exact Bool.false_ne_true)] at hd
      exact hd.elim
    · exact hd.elim
theorem callChk_comp {x : Str} {F : FSem} {ar : Ar} {k : Ck} {e : Expr} (h : callChk x F ar k e = true) : ownFits F ar.own = true ∧ isComp e = false ∧ plainTest e = true := by
  unfold callChk at h
  split at h
  · simp only [Bool.and_eq_true] at h
    exact ⟨h.1.2, rfl, rfl⟩
  · cases h
def Fx.call (x : Str) (F : FSem) (ar : Ar) : Fx where
  den := callF F ar
  chk := callChk x F ar
  need := Need.app (.fn x F) ar.need
  ok := fun {X L A W lev k} c n e h => pe_callG c n h fun σ H Q q => callF_read (callChk_comp h).1 q
  pl := fun k x h => (callChk_comp h).2.2
  set := fun {X L A W lev k} c n e h i y py pos hl => set_plainF c (pe_callG c.cx n h fun σ H Q q => callF_read (callChk_comp h).1 q) (callChk_comp h).2.1 i y py pos hl

/-! ### comprehensions -/
def lcChk (src : Sr) (t : Tg) (cs : Cs) (e : Ex) (vs : List Nat) (k : Ck) (x : Expr) : Bool := match x with
  | .ListComp elt [⟨tg, iter, ifs, 0⟩] scope _ => src.chk k tg iter && blkCk k scope vs && (t.sl.all fun i => vs.contains i) && t.chk (k.inner scope.names) tg && cs.chk (k.inner scope.names) ifs && e.chk (k.inner scope.names) elt
  | _ => false
theorem kind_eq {X : Cx} {L : Lx} {A : An} {W : WX} {lev : Nat} {k : Ck} (c : SCxt X L A W lev k) (y : Str) : X.env.kindOf y = k.ns.lookup y := by
  show X.env.scope.names.lookup y = _
  rw [c.nms]
def Fx.lc (src : Sr) (t : Tg) (cs : Cs) (e : Ex) (vs : List Nat) : Fx where
  den := lcD src.den vs t.den cs.den e.den
  chk := lcChk src t cs e vs
  need := src.need.app (t.need.app (cs.need.app e.need))
  ok := fun {X L A W lev k} c n x h => by
    unfold lcChk at h
    split at h
    · rename_i elt tg iter ifs scope pos
      simp only [Bool.and_eq_true] at h
      obtain ⟨⟨⟨⟨⟨h1, h2⟩, h3⟩, h4⟩, h5⟩, h6⟩ := h
      have hs : ∀ i ∈ t.sl, i ∈ vs := fun i hi => by simpa using List.all_eq_true.mp h3 i hi
      have p := pe_lc (pos := pos) (tt := tAnyT (zx X L) cs.den) (te := tAnyE (zx X L) e.den) (g := gAny (zx X L) t.den t.sl) c.calm (by rw [c.N]; exact c.nd) (src.ok (W := W) (A := A) c n.left tg iter h1) (c.blkOk h2)
        (fun s H C cl fp => pg_ex fun A' => t.ok (c.blk (A' := A') s H scope C cl fp) (n.right.left.blk s H scope _ fp) tg h4)
        (fun s H C cl fp => pts_ex fun A' => cs.ok (c.blk (A' := A') s H scope C cl fp) (n.right.right.left.blk s H scope _ fp) ifs h5)
        (fun s H C cl fp => pe_ex fun A' => e.ok (c.blk (A' := A') s H scope C cl fp) (n.right.right.right.blk s H scope _ fp) elt h6)
        (fun v => fold_of (src.fd k tg iter h1) _ v)
      rw [ownN_snd] at p
      exact PE.weak p fun σ H Q q => lc_read hs q
    · cases h
  pl := fun k x h => by unfold lcChk at h; split at h <;> first | rfl | cases h
  set := fun {X L A W lev k} c n x h i y py spos hl => by
    unfold lcChk at h
    split at h
    · rename_i elt tg iter ifs scope pos
      simp only [Bool.and_eq_true] at h
      obtain ⟨⟨⟨⟨⟨h1, h2⟩, h3⟩, h4⟩, h5⟩, h6⟩ := h
      have hs : ∀ i ∈ t.sl, i ∈ vs := fun i hi => by simpa using List.all_eq_true.mp h3 i hi
      have hN : X.N.Nodup := by rw [c.cx.N]; exact c.cx.nd
      obtain ⟨g1, g2, g3⟩ := c.cx.locOk hl
      have e1 : swapsWith (.ListComp elt [⟨tg, iter, ifs, 0⟩] scope pos) (some (.Name y py)) spos.line X.env = pure (X.env.blockKind == .function && X.env.kindOf y == some .local && py.line == pos.line
        && !(scope.names.any fun (n, k) => n == y && (k == .local || k == .cell))) := rfl
      have P1 := src.ok (W := W) (A := A) c.cx n.left tg iter h1
      have P2 := c.cx.blkOk h2
      have P3 := fun (s : Shared) (H : Hp) (C : Addr) (cl : List (Str × Addr)) (fp : List Addr) => pg_ex fun A' => t.ok (c.cx.blk (A' := A') s H scope C cl fp) (n.right.left.blk s H scope _ fp) tg h4
      have P4 := fun (s : Shared) (H : Hp) (C : Addr) (cl : List (Str × Addr)) (fp : List Addr) => pts_ex fun A' => cs.ok (c.cx.blk (A' := A') s H scope C cl fp) (n.right.right.left.blk s H scope _ fp) ifs h5
      have P5 := fun (s : Shared) (H : Hp) (C : Addr) (cl : List (Str × Addr)) (fp : List Addr) => pe_ex fun A' => e.ok (c.cx.blk (A' := A') s H scope C cl fp) (n.right.right.right.blk s H scope _ fp) elt h6
      have P6 := fun v => fold_of (src.fd k tg iter h1) X.env v
      cases hb : (X.env.blockKind == .function && X.env.kindOf y == some .local && py.line == pos.line && !(scope.names.any fun (n, k) => n == y && (k == .local || k == .cell))) with
      | true =>
        rw [hb] at e1
        have hy : X.env.scope.names.lookup y = some .local := by
          simp only [Bool.and_eq_true] at hb
          have := hb.1.1.2
          have z : X.env.kindOf y = some .local := by simpa using this
          exact z
        have p := ps_setLc (tt := tAnyT (zx X L) cs.den) (te := tAnyE (zx X L) e.den) (g := gAny (zx X L) t.den t.sl) (pos := pos) c.cx.calm hN g1 hy e1 P1 P2 P3 P4 P5 P6
        rw [ownN_snd] at p
        exact PS.weak p fun E σ H q => lc_read hs q
      | false =>
        rw [hb] at e1
        have p := pe_lc (tt := tAnyT (zx X L) cs.den) (te := tAnyE (zx X L) e.den) (g := gAny (zx X L) t.den t.sl) (pos := pos) c.cx.calm hN P1 P2 P3 P4 P5 P6
        rw [ownN_snd] at p
        exact ps_set hN g1 g2 (PE.weak p fun σ H Q q => lc_read hs q) e1 g3
    · cases h

/-! ### name = a new list -/
theorem notA {Z : Zx} {A : An} {H : Hp} {O : List Addr} {σ : L2.St} {ρ : En} (s : SR Z A H O σ ρ) {p : Addr} (h : ∀ (j : Nat) (d : D), ρ[j]? = some (.o d) → σ[j]? ≠ some (some (.ref p))) : p ∉ A.W := fun z => by
  unfold An.W at z
  obtain ⟨q, hq, rfl⟩ := List.mem_map.mp z
  obtain ⟨g1, d, g2⟩ := s.io q hq
  exact h q.1 d g2 g1
def ownD (i : Nat) (ds : List D) (ρ : En) : So := .nx (ρ.set i (.o (.lst ds)))
def Sm.own (i : Nat) (f : Fx) : Sm where
  den := fun ρ => So.after (f.den ρ) (ownD i)
  chk := fun k x => match x with | .Assign [.Name y _] x _ => k.loc i y && !k.io.contains i && f.chk k x | _ => false
  need := f.need
  ok := fun {X L A W lev k} c n x h => by
    split at h
    · simp only [Bool.and_eq_true, Bool.not_eq_true'] at h
      obtain ⟨⟨h1, h2⟩, h3⟩ := h
      have hio : i ∉ A.io.map (·.1) := by rw [c.io]; simpa using h2
      refine PS.weak (f.set c n _ h3 i _ _ _ h1) fun E σ H ⟨ρ, O, s, q⟩ => ⟨ρ, O, s, (after_post q).mono (fun ds ρ1 z p xs H' O' e' g1 g2 g3 g4 g5 s' r => ?_) fun _ _ z => z⟩
      exact z _ H' O' e' (s'.setO hio g1 g2 g3 g4 g5 r)
    · cases h
/-- return of a new list -/
def Sm.retF (f : Fx) : Sm where
  den := fun ρ => So.after (f.den ρ) fun ds ρ1 => .rf ds ρ1
  chk := fun k x => match x with | .Return (some x) _ => f.chk k x | _ => false
  need := f.need
  ok := fun {X L A W lev k} c n x h => by
    split at h
    · refine PS.weak (ps_ret (f.ok c.cx n _ h)) fun E σ H ⟨ρ, O, s, q⟩ => ⟨ρ, O, s, (after_post q).mono (fun ds ρ1 z p xs H' O' e' g1 g2 g3 g4 g5 s' r => ?_) fun _ _ z => z⟩
      exact z p xs σ H' O' e' g1 g2 g3 (notA s' g4) g5 s' r
    · cases h
/-- an own list is not changed from now on: it becomes a value -/
def frzD (i : Nat) (ρ : En) : Option En := match ρ[i]? with
  | some (.o d) => some (ρ.set i (.v d))
  | _ => none
theorem frz_SR {Z : Zx} {A : An} {H : Hp} {O : List Addr} {σ : L2.St} {ρ ρ' : En} (s : SR Z A H O σ ρ) {i : Nat} (h : frzD i ρ = some ρ') (hi : i ∉ A.io.map (·.1)) : ∃ O', Ext H O H O' ∧ SR Z A H O' σ ρ' := by
  unfold frzD at h
  split at h
  · rename_i d hd
    cases h
    obtain ⟨a, h1, ⟨xs, ds, h2, h3, h4, h5⟩, h6⟩ := s.own i d hd
    subst h2
    have hl : i < ρ.length := (List.getElem?_eq_some_iff.mp hd).1
    have nA : a ∉ A.O := fun z => by
      rcases h6 with w | ⟨_, w⟩
      · obtain ⟨p, hp, rfl⟩ := List.mem_map.mp (show a ∈ A.io.map (·.2) from w)
        obtain ⟨g1, e, g2⟩ := s.io p hp
        exact hi (List.mem_map.mpr ⟨p, hp, (s.sep i p.1 _ e p.2 hd g2 h1 g1).symm⟩)
      · exact w z
    have ex : Ext H O H (dropA a O) := Ext.sub fun b hb => (mem_dropA.mp hb).1
    have off : ∀ {j : Nat} {t : Sl}, i ≠ j → (ρ.set i (.v (.lst ds)))[j]? = some t → ρ[j]? = some t := fun {j t} hj h => by rw [List.getElem?_set_ne hj] at h; exact h
    have onO : ∀ {j : Nat} {e : D}, (ρ.set i (.v (.lst ds)))[j]? = some (.o e) → i ≠ j := fun {j e} h z => by
      subst z
      rw [List.getElem?_set_self hl] at h
      cases h
    refine ⟨dropA a O, ex, ⟨by simp [s.len], fun j e g => ?_, fun j e g => ?_, fun j k d e b g1 g2 g3 g4 => s.sep j k d e b (off (onO g1) g1) (off (onO g2) g2) g3 g4, s.tabs, s.anc, s.dom, fun b hb => mem_dropA.mpr ⟨s.sub b hb, fun z => nA (by rw [← z]; exact hb)⟩, fun b hb => s.trk b (mem_dropA.mp hb).1, fun p hp => ?_⟩⟩
    · by_cases hj : i = j
      · subst hj
        rw [List.getElem?_set_self hl] at g
        cases g
        exact ⟨.ref a, h1, .lst ⟨h4, fun z => (mem_dropA.mp z).2 rfl⟩ (h5.ext ex)⟩
      · obtain ⟨v, q1, q2⟩ := s.val j e (off hj g)
        exact ⟨v, q1, q2.ext ex⟩
    · have hj := onO g
      obtain ⟨b, q1, ⟨zs, fs, q2, q3, q4, q5⟩, q6⟩ := s.own j e (off hj g)
      exact ⟨b, q1, ⟨zs, fs, q2, mem_dropA.mpr ⟨q3, fun z => hj (s.sep i j _ e a hd (off hj g) h1 (by rw [q1, z]))⟩, q4, q5.ext ex⟩, q6⟩
    · have hn : i ≠ p.1 := fun z => hi (List.mem_map.mpr ⟨p, hp, z.symm⟩)
      obtain ⟨q1, e, q2⟩ := s.io p hp
      exact ⟨q1, e, by rw [List.getElem?_set_ne hn]; exact q2⟩
  · cases h
def Sm.frz (i : Nat) (m : Sm) : Sm where
  den := fun ρ => match frzD i ρ with | some ρ1 => m.den ρ1 | none => .no
  chk := fun k x => !k.io.contains i && m.chk k x
  need := m.need
  ok := fun {X L A W lev k} c n x h => by
    rw [Bool.and_eq_true, Bool.not_eq_true'] at h
    have hio : i ∉ A.io.map (·.1) := by rw [c.io]; simpa using h.1
    refine PS.weak (m.ok c n x h.2) fun E σ H ⟨ρ, O, s, q⟩ => ?_
    cases hd : frzD i ρ with
    | none =>
      dsimp only at q
      rw [hd] at q
      exact q.elim
    | some ρ1 =>
      dsimp only at q
      rw [hd] at q
      obtain ⟨O', ex, s'⟩ := frz_SR s hd hio
      exact ⟨ρ1, O', s', SoP.ext ex q⟩
/-! ### a row, some of it new lists -/
inductive Md where
  | v (d : D) | f (ds : List D)
structure FreshAt (Z : Zx) (A : An) (H : Hp) (O : List Addr) (σ : L2.St) (ρ : En) (p : Addr) (ds : List D) : Prop where
  hA : A.H p = none
  hO : p ∉ A.O
  mem : p ∈ O
  at_ : ∃ xs, H p = some (.lst xs) ∧ Reps Z H O xs ds
  no : ∀ (j : Nat) (d : D), ρ[j]? = some (.o d) → σ[j]? ≠ some (some (.ref p))
inductive MReps (Z : Zx) (A : An) (H : Hp) (O : List Addr) (σ : L2.St) (ρ : En) : List V → List Md → List Addr → Prop
  | nil : MReps Z A H O σ ρ [] [] []
  | v {v : V} {d : D} {vs : List V} {ms : List Md} {ps : List Addr} : Rep Z H O v d → MReps Z A H O σ ρ vs ms ps → MReps Z A H O σ ρ (v :: vs) (.v d :: ms) ps
  | f {p : Addr} {ds : List D} {vs : List V} {ms : List Md} {ps : List Addr} : FreshAt Z A H O σ ρ p ds → p ∉ ps → MReps Z A H O σ ρ vs ms ps → MReps Z A H O σ ρ (.ref p :: vs) (.f ds :: ms) (p :: ps)
def tM (Z : Zx) (A : An) (W : WX) (f : En → Out (List Md)) : TA := fun σ H Q => ∃ ρ O, SR Z A H O σ ρ ∧ (f ρ).Post (fun ms ρ' => ∀ vs ps H' O', Ext H O H' O' → SR Z A H' O' σ ρ' → MReps Z A H' O' σ ρ' vs ms ps → Q vs H') (ErP Z A W H O)
structure Ms where
  den : En → Out (List Md)
  chk : Ck → List Expr → Bool
  need : Need
  ok : ∀ {X : Cx} {L : Lx} {A : An} {W : WX} {lev : Nat} {k : Ck}, Cxt X L A W lev k → Has X L lev need → ∀ xs, chk k xs = true → PA X xs (tM (zx X L) A W den)
theorem MReps.ext {Z : Zx} {A : An} {H H' : Hp} {O O' : List Addr} {σ : L2.St} {ρ : En} (e : Same H H') {vs : List V} {ms : List Md} {ps : List Addr} (r : MReps Z A H O σ ρ vs ms ps) : MReps Z A H' O σ ρ vs ms ps := by
  induction r with
  | nil => exact .nil
  | v r _ ih => exact .v (r.ext (Ext.same e)) ih
  | f h n _ ih =>
    obtain ⟨xs, h1, h2⟩ := h.at_
    exact .f ⟨h.hA, h.hO, h.mem, ⟨xs, e _ _ h1, h2.ext (Ext.same e)⟩, h.no⟩ n ih
theorem MReps.length {Z : Zx} {A : An} {H : Hp} {O : List Addr} {σ : L2.St} {ρ : En} {vs : List V} {ms : List Md} {ps : List Addr} (r : MReps Z A H O σ ρ vs ms ps) : vs.length = ms.length := by
  induction r with
  | nil => rfl
  | v _ _ ih => simp [ih]
  | f _ _ _ ih => simp [ih]
def Ms.nil : Ms where
  den := fun ρ => .ok [] ρ
  chk := fun _ xs => xs.isEmpty
  need := .nil
  ok := fun {X L A W lev k} c n xs h => by
    cases xs with
    | nil => exact PA.weak pa_nil fun σ H Q ⟨ρ, O, s, q⟩ => q [] [] H O (Ext.refl H O) s .nil
    | cons _ _ => cases h
def Ms.v (e : Ex) (r : Ms) : Ms where
  den := fun ρ => (e.den ρ).bind fun d ρ1 => (r.den ρ1).bind fun ds ρ2 => .ok (.v d :: ds) ρ2
  chk := fun k xs => match xs with | x :: xs => notStar x && e.chk k x && r.chk k xs | [] => false
  need := e.need.app r.need
  ok := fun {X L A W lev k} c n xs h => by
    cases xs with
    | nil => cases h
    | cons x xs =>
      have h : (notStar x && e.chk k x && r.chk k xs) = true := h
      simp only [Bool.and_eq_true] at h
      refine PA.weak (pa_cons (e.ok c n.left x h.1.2) (r.ok c n.right xs h.2) (starEach_cons h.1.1)) fun σ H Q ⟨ρ, O, s, q⟩ => ?_
      refine tS_bind s q fun d ρ1 v H1 O1 e1 s1 r1 hk => ?_
      refine ⟨ρ1, O1, s1, (Out.post_bind hk).mono (fun ms ρ2 z vs ps H2 O2 e2 s2 r2 => ?_) fun _ _ z => z⟩
      exact z (v :: vs) ps H2 O2 (e1.trans e2) s2 (.v (r1.ext e2) r2)
theorem pa_ex {X : Cx} {x : List Expr} {t : An → TA} (h : ∀ A, PA X x (t A)) : PA X x (fun σ H Q => ∃ A, t A σ H Q) := ⟨fun pos pins s σ H Q I ⟨A, q⟩ => (h A).run pos pins s σ H Q I q⟩
def Ms.f (e : Fx) (r : Ms) : Ms where
  den := fun ρ => (e.den ρ).bind fun d ρ1 => (r.den ρ1).bind fun ds ρ2 => .ok (.f d :: ds) ρ2
  chk := fun k xs => match xs with | x :: xs => notStar x && e.chk k x && r.chk k xs | [] => false
  need := e.need.app r.need
  ok := fun {X L A W lev k} c n xs h => by
    cases xs with
    | nil => cases h
    | cons x xs =>
      have h : (notStar x && e.chk k x && r.chk k xs) = true := h
      simp only [Bool.and_eq_true] at h
      have cA : ∀ A', Cxt X L A' W lev k := fun A' => ⟨c.N, c.nd, c.calm, c.sc, c.fn, c.tk, c.room, c.blt, c.gd, c.po, c.qual, c.tab⟩
      refine PA.weak (pa_cons (e.ok c n.left x h.1.2) (pa_ex fun A' => r.ok (cA A') n.right xs h.2) (starEach_cons h.1.1)) fun σ H Q ⟨ρ, O, s, q⟩ => ?_
      refine ⟨ρ, O, s, (Out.post_bind q).mono (fun ds ρ1 hk p xs H1 O1 e1 g1 g2 g3 g4 g5 s1 r1 => ?_) fun _ _ z => z⟩
      have pW : p ∉ (here H1 O1 σ ρ1).W := fun z => by
        obtain ⟨j, d, q1, q2⟩ := here_W.mp z
        exact g4 j d q1 q2
      refine ⟨here H1 O1 σ ρ1, ρ1, O1, s1.re, (Out.post_bind hk).mono (fun ms ρ2 z vs ps H2 O2 e2 s2 r2 => ?_) fun x ρ2 z σ' cls dd H' O' e' s' => z σ' cls dd H' O' (e1.trans e') (s1.un s')⟩
      have e12 := e1.trans e2
      have s2' := s1.un s2
      have hp2 := s2.anc p (.lst xs) g5 pW (fun ps z => nomatch z)
      have no2 : ∀ (j : Nat) (d : D), ρ2[j]? = some (.o d) → σ[j]? ≠ some (some (.ref p)) := fun j d q1 q2 => by
        obtain ⟨a, q3, _, q4⟩ := s2.own j d q1
        rw [q2] at q3
        cases q3
        rcases q4 with w | ⟨w, _⟩
        · exact pW w
        · rw [show (here H1 O1 σ ρ1).H p = H1 p from rfl, g5] at w
          cases w
      have lift : ∀ {vs : List V} {ms : List Md} {ps : List Addr}, MReps (zx X L) (here H1 O1 σ ρ1) H2 O2 σ ρ2 vs ms ps → MReps (zx X L) A H2 O2 σ ρ2 vs ms ps ∧ p ∉ ps := fun {vs ms ps} r => by
        induction r with
        | nil => exact ⟨.nil, fun z => nomatch z⟩
        | v r _ ih => exact ⟨.v r ih.1, ih.2⟩
        | @f p' ds' vs' ms' ps' h n _ ih =>
          have hA' : A.H p' = none := by
            cases q : A.H p' with
            | none => rfl
            | some u => exact absurd h.hA (s1.dom p' (by rw [q]; exact fun z => nomatch z))
          refine ⟨.f ⟨hA', fun z => h.hO (s1.sub p' z), h.mem, h.at_, h.no⟩ n ih.1, fun z => ?_⟩
          rcases List.mem_cons.mp z with w | w
          · have := h.hA
            rw [← w, show (here H1 O1 σ ρ1).H p = H1 p from rfl, g5] at this
            cases this
          · exact ih.2 w
      obtain ⟨r3, np⟩ := lift r2
      exact z (.ref p :: vs) (p :: ps) H2 O2 e12 s2' (.f ⟨g1, g2, s2.sub p g3, ⟨xs, hp2, r1.ext e2⟩, no2⟩ np r3)
end Ev
set_option Elab.async false
set_option maxRecDepth 100000
set_option maxHeartbeats 4000000
/-! EvM: several names at once; op=; methods of lists. -/
namespace Ev
open PySem PySem.Spec PyProof.Rows L2

/-! ### in which order several names are stored -/
theorem any_star {es : List Expr} (h : es.all notStar = true) : ¬ (es.any fun | .Starred .. => true | _ => false) = true := fun z => by
  obtain ⟨e, he, hm⟩ := List.any_eq_true.mp z
  have := List.all_eq_true.mp h e he
  cases e <;> first | exact (Bool.false_ne_true hm).elim | exact (Bool.false_ne_true this).elim
def nmsOf (ns : List (Str × NameKind)) (ts : List Expr) : List Str := ts.filterMap fun
  | .Name id pos => if ns.lookup id == some .local && pos.line == (ts.head?.map (·.pos.line)).getD 0 then some id else none
  | _ => none
theorem swapped_none {ts vs : List Expr} {kt k2 : Nat} {pt pt2 : Pos} {env : PySem.Env} (hk : env.scope.kind = .function)
    (h : ((nmsOf env.scope.names ts).length != ts.length || (nmsOf env.scope.names ts).eraseDups.length != (nmsOf env.scope.names ts).length || vs.all (foldedForSure 8)) = true) :
    swappedStores [.Tuple ts kt pt] (.Tuple vs k2 pt2) env = pure none := by
  unfold swappedStores
  dsimp only
  by_cases h1 : (!(ts.length == 2 || ts.length == 3) || vs.length != ts.length || env.blockKind != .function) = true
  · exact if_pos h1
  refine (if_neg h1).trans ?_
  by_cases h2 : (vs.any fun | .Starred .. => true | _ => false) = true
  · exact if_pos h2
  refine (if_neg h2).trans ?_
  rw [Bool.or_eq_true] at h
  by_cases h3 : ((nmsOf env.scope.names ts).length != ts.length || (nmsOf env.scope.names ts).eraseDups.length != (nmsOf env.scope.names ts).length) = true
  · exact if_pos h3
  refine (if_neg (show ¬ _ from h3)).trans ?_
  rcases h with h | h
  · exact absurd h h3
  · exact if_pos h
theorem swapped_some {ts vs : List Expr} {kt k2 : Nat} {pt pt2 : Pos} {env : PySem.Env} (hk : env.scope.kind = .function) (hl : ts.length = 2 ∨ ts.length = 3) (hv : vs.length = ts.length) (hs : vs.all notStar = true)
    (h : ((nmsOf env.scope.names ts).length != ts.length || (nmsOf env.scope.names ts).eraseDups.length != (nmsOf env.scope.names ts).length) = false) (hf : vs.all (foldedForSure 8) = false) (hc : vs.all (constantsAlone 8) = false) :
    swappedStores [.Tuple ts kt pt] (.Tuple vs k2 pt2) env = pure (some (nmsOf env.scope.names ts)) := by
  unfold swappedStores
  dsimp only
  refine (if_neg ?_).trans ?_
  · rw [blockKind_of hk, hv]
    rcases hl with e | e <;> rw [e] <;> decide
  refine (if_neg (any_star hs)).trans ?_
  refine (if_neg (show ¬ _ from fun z => Bool.false_ne_true (h.symm.trans z))).trans ?_
  refine (if_neg (fun z => Bool.false_ne_true (hf.symm.trans z))).trans ?_
  exact if_neg (fun z => Bool.false_ne_true (hc.symm.trans z))

/-! ### storing a row -/
def setAll (σ : L2.St) : List Nat → List V → L2.St
  | i :: is, v :: vs => setAll (σ.set i (some v)) is vs
  | _, _ => σ
def putM : List Nat → List Md → En → Option En
  | [], [], ρ => some ρ
  | i :: is, .v d :: ms, ρ => (nameD i d ρ).bind fun ρ1 => putM is ms ρ1
  | i :: is, .f ds :: ms, ρ => putM is ms (ρ.set i (.o (.lst ds)))
  | _, _, _ => none
theorem FreshAt.set {Z : Zx} {A : An} {H : Hp} {O : List Addr} {σ : L2.St} {ρ : En} {p : Addr} {ds : List D} (f : FreshAt Z A H O σ ρ p ds) {i : Nat} {s : Sl} {v : V} (h : v ≠ .ref p ∨ ∀ d, s ≠ .o d) : FreshAt Z A H O (σ.set i (some v)) (ρ.set i s) p ds := by
  refine ⟨f.hA, f.hO, f.mem, f.at_, fun j d h1 h2 => ?_⟩
  by_cases hj : i = j
  · subst hj
    have l1 : i < ρ.length := by simpa using (List.getElem?_eq_some_iff.mp h1).1
    have l2 : i < σ.length := by simpa using (List.getElem?_eq_some_iff.mp h2).1
    rw [List.getElem?_set_self l1] at h1
    rw [List.getElem?_set_self l2] at h2
    rcases h with h | h
    · exact h (Option.some.inj (Option.some.inj h2))
    · exact h d (Option.some.inj h1)
  · rw [List.getElem?_set_ne hj] at h1 h2
    exact f.no j d h1 h2
theorem MReps.set {Z : Zx} {A : An} {H : Hp} {O : List Addr} {σ : L2.St} {ρ : En} {vs : List V} {ms : List Md} {ps : List Addr} (r : MReps Z A H O σ ρ vs ms ps) {i : Nat} {s : Sl} {v : V} (h : ∀ p ∈ ps, v ≠ .ref p ∨ ∀ d, s ≠ .o d) : MReps Z A H O (σ.set i (some v)) (ρ.set i s) vs ms ps := by
  induction r with
  | nil => exact .nil
  | v r _ ih => exact .v r (ih h)
  | f f n _ ih => exact .f (f.set (h _ List.mem_cons_self)) n (ih fun p hp => h p (List.mem_cons_of_mem _ hp))
theorem putM_spec {Z : Zx} {A : An} {H : Hp} {O : List Addr} : ∀ {is : List Nat} {ms : List Md} {σ : L2.St} {ρ ρ' : En} {vs : List V} {ps : List Addr}, SR Z A H O σ ρ → MReps Z A H O σ ρ vs ms ps → putM is ms ρ = some ρ' → (∀ i ∈ is, i ∉ A.io.map (·.1)) → vs.length = is.length ∧ SR Z A H O (setAll σ is vs) ρ'
  | [], [], σ, ρ, ρ', _, _, s, .nil, h, _ => by cases h; exact ⟨rfl, s⟩
  | i :: is, .v d :: ms, σ, ρ, ρ', _, _, s, .v (v := v) r rr, h, hi => by
    obtain ⟨ρ1, h1, h2⟩ := Option.bind_eq_some_iff.mp (show (nameD i d ρ).bind (fun ρ1 => putM is ms ρ1) = some ρ' from h)
    obtain ⟨rfl, _⟩ := nameD_spec h1
    obtain ⟨l, q⟩ := putM_spec (s.setV (hi i List.mem_cons_self) r) (rr.set (v := v) fun p _ => .inr fun d z => nomatch z) h2 fun j hj => hi j (List.mem_cons_of_mem _ hj)
    exact ⟨by simp [l], q⟩
  | i :: is, .f ds :: ms, σ, ρ, ρ', _, _, s, .f (p := p) (ps := ps) f n rr, h, hi => by
    have h : putM is ms (ρ.set i (.o (.lst ds))) = some ρ' := h
    obtain ⟨xs, h1, h2⟩ := f.at_
    obtain ⟨l, q⟩ := putM_spec (s.setO (hi i List.mem_cons_self) f.hA f.hO f.mem f.no h1 h2) (rr.set (v := .ref p) fun p' hp' => .inl fun z => n (by cases z; exact hp')) h fun j hj => hi j (List.mem_cons_of_mem _ hj)
    exact ⟨by simp [l], q⟩
  | [], _ :: _, _, _, _, _, _, _, _, h, _ => by cases h
  | _ :: _, [], _, _, _, _, _, _, _, h, _ => by cases h
def namesOk (k : Ck) : List Nat → List Expr → Bool
  | [], [] => true
  | i :: is, .Name y _ :: es => k.loc i y && !k.io.contains i && namesOk k is es
  | _, _ => false
theorem namesOk_star {k : Ck} : ∀ {is : List Nat} {es : List Expr}, namesOk k is es = true → es.all notStar = true ∧ es.length = is.length ∧ ∀ i ∈ is, i ∉ k.io
  | [], [], _ => ⟨rfl, rfl, fun _ h => nomatch h⟩
  | i :: is, .Name y p :: es, h => by
    have h : (k.loc i y && !k.io.contains i && namesOk k is es) = true := h
    simp only [Bool.and_eq_true, Bool.not_eq_true'] at h
    obtain ⟨a, b, c⟩ := namesOk_star h.2
    refine ⟨by rw [List.all_cons, a]; rfl, by simp [b], fun j hj => ?_⟩
    rcases List.mem_cons.mp hj with rfl | hj
    · simpa using h.1.2
    · exact c j hj
theorem pgs_names {X : Cx} {L : Lx} {A : An} {W : WX} {lev : Nat} {k : Ck} (c : Cxt X L A W lev k) : ∀ {is : List Nat} {es : List Expr}, namesOk k is es = true → PGs X es (fun vs σ H Q => vs.length = is.length ∧ Q (setAll σ is vs) H)
  | [], [], _ => PGs.weak pgs_nil fun vs σ H Q ⟨hl, q⟩ => by
    cases vs with
    | nil => exact ⟨rfl, q⟩
    | cons _ _ => cases hl
  | i :: is, .Name y p :: es, h => by
    have h : (k.loc i y && !k.io.contains i && namesOk k is es) = true := h
    simp only [Bool.and_eq_true] at h
    obtain ⟨g1, g2, g3⟩ := c.locOk h.1.1
    have hall : (Expr.Name y p :: es).all notStar = true := by rw [List.all_cons, (namesOk_star h.2).1]; rfl
    refine PGs.weak (pgs_cons (pg_name (by rw [c.N]; exact c.nd) g1 g2 g3) (pgs_names c h.2) (by rw [assignEach_all hall, assignEach_all (namesOk_star h.2).1]; rfl)) fun vs σ H Q ⟨hl, q⟩ => ?_
    cases vs with
    | nil => cases hl
    | cons v vs => exact ⟨v, vs, rfl, by simpa using hl, q⟩
/-- a, b, .. = x, y, .. (plain names) -/
def Sm.parM (is : List Nat) (ms : Ms) : Sm where
  den := fun ρ => So.after (ms.den ρ) fun mds ρ1 => match putM is mds ρ1 with | some ρ2 => .nx ρ2 | none => .no
  chk := fun k x => match x with
    | .Assign [.Tuple ts _ _] (.Tuple vs _ _) _ => namesOk k is ts && ms.chk k vs && decide (ts.length ≤ 100) &&
      (((nmsOf k.ns ts).length != ts.length || (nmsOf k.ns ts).eraseDups.length != (nmsOf k.ns ts).length || vs.all (foldedForSure 8)) ||
       (match ts, vs, is with
        | [.Name x _, .Name y _], [a, b], [i, j] => decide (nmsOf k.ns ts = [x, y]) && decide (i ≠ j) && decide (k.ns.lookup x = some .local) && decide (k.ns.lookup y = some .local) && vs.all notStar && !((nmsOf k.ns ts).length != ts.length || (nmsOf k.ns ts).eraseDups.length != (nmsOf k.ns ts).length) && !vs.all (foldedForSure 8) && !vs.all (constantsAlone 8)
        | [.Name x _, .Name y _, .Name z _], [a, b, c], [i, j, l] => decide (nmsOf k.ns ts = [x, y, z]) && decide (i ≠ j ∧ i ≠ l ∧ j ≠ l) && decide (k.ns.lookup x = some .local) && decide (k.ns.lookup y = some .local) && decide (k.ns.lookup z = some .local) && vs.all notStar && !((nmsOf k.ns ts).length != ts.length || (nmsOf k.ns ts).eraseDups.length != (nmsOf k.ns ts).length) && !vs.all (foldedForSure 8) && !vs.all (constantsAlone 8)
        | _, _, _ => false))
    | _ => false
  need := ms.need
  ok := fun {X L A W lev k} c n x h => by
    split at h
    · rename_i ts kt pt vs k2 pt2 pos
      rw [Bool.and_eq_true, Bool.and_eq_true, Bool.and_eq_true, Bool.or_eq_true, decide_eq_true_eq] at h
      obtain ⟨⟨⟨h1, h2⟩, h3⟩, h4⟩ := h
      obtain ⟨st, hl, hio⟩ := namesOk_star h1
      have hio' : ∀ i ∈ is, i ∉ A.io.map (·.1) := by rw [c.io]; exact hio
      have hN : X.N.Nodup := by rw [c.cx.N]; exact c.cx.nd
      rcases h4 with h4 | h4
      · have hall := assignEach_all (env := X.env) st
        refine PS.weak (ps_asg (pe_tup (ms.ok c.cx n vs h2)) (pg_tup c.cx.calm (pgs_names c.cx h1) (n := is.length) (by rw [hall, List.length_map]; exact hl) (by rw [hall]; exact findIdx_none)) rfl (swapped_none c.kind (by rw [c.nms]; exact h4)) rfl) fun E σ H ⟨ρ, O, s, q⟩ => ⟨ρ, O, s, (after_post q).mono (fun mds ρ1 z vs ps H' O' e' s' r => ?_) fun _ _ z => z⟩
        cases hp : putM is mds ρ1 with
        | none => rw [hp] at z; exact z.elim
        | some ρ2 =>
          rw [hp] at z
          obtain ⟨l1, sx⟩ := putM_spec s' r hp hio'
          refine ⟨by rw [l1, ← hl]; exact Nat.le_trans h3 (by decide), fun p hpn => ⟨p, vs, rfl, SqT.of upd_same, l1, l1, ?_⟩⟩
          have sm : Same H' (upd H' p (.tup vs)) := same_new hpn
          exact z _ _ O' (e'.trans (Ext.same sm)) (sx.same sm)
      · split at h4
        · rename_i x px y py a b i j
          simp only [Bool.and_eq_true, decide_eq_true_eq, Bool.not_eq_true'] at h4
          obtain ⟨⟨⟨⟨⟨⟨⟨a1, a2⟩, a3⟩, a4⟩, a5⟩, a6⟩, a7⟩, a8⟩ := h4
          have h1 : (k.loc i x && !k.io.contains i && (k.loc j y && !k.io.contains j && true)) = true := h1
          simp only [Bool.and_eq_true] at h1
          obtain ⟨g1, _, _⟩ := c.cx.locOk h1.1.1
          obtain ⟨g2, _, _⟩ := c.cx.locOk h1.2.1.1
          have hw := swapped_some (kt := kt) (k2 := k2) (pt := pt) (pt2 := pt2) (ts := [.Name x px, .Name y py]) (vs := [a, b]) c.kind (.inl rfl) rfl a5 (by rw [c.nms]; exact a6) a7 a8
          rw [c.nms, a1] at hw
          refine PS.weak (ps_par c.cx.calm hN g1 g2 a2 (by rw [c.nms]; exact a3) (by rw [c.nms]; exact a4) (ms.ok c.cx n _ h2) hw rfl) fun E σ H ⟨ρ, O, s, q⟩ => ⟨ρ, O, s, (after_post q).mono (fun mds ρ1 z vs ps H' O' e' s' r => ?_) fun _ _ z => z⟩
          cases hp : putM [i, j] mds ρ1 with
          | none => rw [hp] at z; exact z.elim
          | some ρ2 =>
            rw [hp] at z
            obtain ⟨l1, sx⟩ := putM_spec s' r hp hio'
            match vs, l1, sx with
            | [v, w], _, sx => exact ⟨v, w, rfl, z _ H' O' e' sx⟩
        · rename_i x px y py zz pz a b d i j l
          simp only [Bool.and_eq_true, decide_eq_true_eq, Bool.not_eq_true'] at h4
          obtain ⟨⟨⟨⟨⟨⟨⟨⟨a1, a2⟩, a3⟩, a4⟩, a9⟩, a5⟩, a6⟩, a7⟩, a8⟩ := h4
          have h1 : (k.loc i x && !k.io.contains i && (k.loc j y && !k.io.contains j && (k.loc l zz && !k.io.contains l && true))) = true := h1
          simp only [Bool.and_eq_true] at h1
          obtain ⟨g1, _, _⟩ := c.cx.locOk h1.1.1
          obtain ⟨g2, _, _⟩ := c.cx.locOk h1.2.1.1
          obtain ⟨g3, _, _⟩ := c.cx.locOk h1.2.2.1.1
          have hw := swapped_some (kt := kt) (k2 := k2) (pt := pt) (pt2 := pt2) (ts := [.Name x px, .Name y py, .Name zz pz]) (vs := [a, b, d]) c.kind (.inr rfl) rfl a5 (by rw [c.nms]; exact a6) a7 a8
          rw [c.nms, a1] at hw
          refine PS.weak (ps_par3 c.cx.calm hN g1 g2 g3 a2.1 a2.2.1 a2.2.2 (by rw [c.nms]; exact a3) (by rw [c.nms]; exact a4) (by rw [c.nms]; exact a9) (ms.ok c.cx n _ h2) hw rfl) fun E σ H ⟨ρ, O, s, q⟩ => ⟨ρ, O, s, (after_post q).mono (fun mds ρ1 z vs ps H' O' e' s' r => ?_) fun _ _ z => z⟩
          cases hp : putM [i, j, l] mds ρ1 with
          | none => rw [hp] at z; exact z.elim
          | some ρ2 =>
            rw [hp] at z
            obtain ⟨l1, sx⟩ := putM_spec s' r hp hio'
            match vs, l1, sx with
            | [u, v, w], _, sx => exact ⟨u, v, w, rfl, z _ H' O' e' sx⟩
        · cases h4
    · cases h
end Ev
set_option Elab.async false
set_option maxRecDepth 100000
set_option maxHeartbeats 4000000
/-! EvN: a def by its body. -/
namespace Ev
open PySem PySem.Spec PyProof.Rows L2

/-! ### the rule for a def, where no object is being shown -/
theorem fnG_of {P : Program} {w : World} {K : PySem.W.Frag} {mg : Str → Option Value} {base : Heap} {k : Nat} {f : Addr} {name qual : Str} {params : Arguments} {body : List Stmt} {scope : Scope} {dV kV doc pm cdv ct oc : Value} {an od : Option Addr}
    {osl : Array (Option Value)} {N ps : List Str} {sp : Sp} (lk : K.lookup f = some ⟨oc, od, .func (PySem.W.fnOf name qual params body scope dV kV doc pm an cdv ct), osl⟩) (hcd : PySem.W.codeIn K cdv qual = true) (S : FnScope N ps scope)
    (len : ∀ vs H Q E, sp vs H Q E → vs.length = ps.length)
    (hb : ∀ (A : Around), A.guards = some [] → ∀ (outer : List PySem.Env) (s : Shared) (H : Hp) (vs : List V) (Q : VK) (E : XK), Room k (A.deeper (envOfC qual scope s.heap.objs.size f cdv)) → sp vs H Q E →
      ∃ t, PSs (cxOf (CX P w) P w K mg base N qual scope f cdv A outer s H E) body t ∧ t { nx := fun _ H' => Q .non H', rt := Q } (L2.start N vs) H) :
    FnG P w K mg base (k + 1) f (PySem.W.fnOf name qual params body scope dV kV doc pm an cdv ct) ps sp := by
  refine ⟨len, fun A hg hr outer s H args us vs Q E e0 bind rv hs => ?_⟩
  have n := len _ _ _ _ hs
  have kin : K.In s.heap := e0.mod.kin.keeps fun b o e => (e0.bs b o e).1
  have cells : ∀ y ∈ ps.zip us, scope.names.lookup y.1 = some .local ∨ (scope.names.lookup y.1 = some .cell ∧ ((cellsFrom (s.heap.objs.size + 1) scope.names []).lookup y.1).isSome = true) := by
    rintro ⟨x, v⟩ hy
    have hx := (List.of_mem_zip hy).1
    cases S.par x hx with
    | inl q => exact .inl q
    | inr q => exact .inr ⟨q, PySem.W.cellsFrom_some _ _ _ (.inl q)⟩
  refine codeAny_call_function hr.depth (kin _ _ lk) rfl S.co S.gen rfl (PySem.W.codeRec_of kin hcd) (bind _ _ _ _ ?_)
  refine wpAny_newFunctionEnv_cells S.kind cells fun env he s1 x => ?_
  subst he
  have lim : s1.heap.NoLimit := (e0.mod.nolimit.keeps fun b o e => (e0.bs b o e).1).keeps x.toInCall.keep
  refine ⟨lim, codeAny_func ?_⟩
  obtain ⟨t, ht, hq⟩ := hb A hg outer s H vs Q E (hr.deeper _) hs
  have I : Inv (cxOf (CX P w) P w K mg base N qual scope f cdv A outer s H E) [] (L2.start N vs) H s1 := inv_start S hr.hd e0 n rv x
  refine wpAny_mono (ht.run [] s1 (L2.start N vs) H _ I hq) (fun fl s2 h2 => ?_) fun e s2 h2 => h2
  match fl, h2 with
  | .ret u, ⟨v, σ', H', J, r, q⟩ => exact ⟨v, H', J.os, J.bare, J.base, J.hok, r, q⟩
  | .next, ⟨σ', H', J, q⟩ => exact ⟨.non, H', J.os, J.bare, J.base, J.hok, rfl, q⟩
  | .brk, ⟨_, _, _, q⟩ => exact q.elim
  | .cont, ⟨_, _, _, q⟩ => exact q.elim

/-! ### what the module has -/
structure Gd where
  P : Program
  w : World
  K : PySem.W.Frag
  mg : Str → Option Value
  base : Heap
  L : Lx
def Gd.z (G : Gd) : Zx := ⟨G.K, G.mg, G.L.lam, G.L.T, G.w⟩
/-- the module's name x holds a def that keeps the promise of F -/
def FnW (G : Gd) (lev : Nat) (x : Str) (F : FSem) : Prop :=
  ∃ (f : Addr) (fd : FuncData) (ps : List Str), G.mg x = some (.ref f) ∧ PySem.W.keepIn G.K (.ref f) = true ∧ ps.length = F.ar ∧ Binds G.K fd ps [] ∧ FnG G.P G.w G.K G.mg G.base lev f fd ps (spOf G.z F)
theorem FnW.mono {G : Gd} {j k : Nat} {x : Str} {F : FSem} (h : FnW G j x F) (l : j ≤ k) : FnW G k x F := by
  obtain ⟨f, fd, ps, h1, h2, h3, h4, h5⟩ := h
  exact ⟨f, fd, ps, h1, h2, h3, h4, h5.mono l⟩
def FnWK (G : Gd) (lev : Nat) (x : Str) (F : FSem) (ks : List Str) (pm : List Nat) : Prop :=
  ∃ (f : Addr) (fd : FuncData) (ps : List Str), G.mg x = some (.ref f) ∧ PySem.W.keepIn G.K (.ref f) = true ∧ ps.length = F.ar ∧ (∀ (s : Shared) (ws : List Value), G.K.In s.heap → ws.length = ks.length → BindsTo s fd ⟨[], ks.zip ws⟩ (ps.zip (pm.map fun i => ws.getD i .none))) ∧
    FnG G.P G.w G.K G.mg G.base lev f fd ps (spOf G.z F)
def CloW (G : Gd) (lev : Nat) (k : Nat) (F : FSem) : Prop :=
  ∀ I : LamI, G.L.lam k I = true → I.fr = [] → ∀ (A : Around), A.guards = some [] → Room lev A → ∀ (outer : List PySem.Env) (s : Shared) (H : Hp) (f c : Addr) (us : List Value) (vs : List V) (Q : VK) (E : XK), Env0 G.P G.w G.K G.mg G.base A outer s H →
    H f = some (FnObj I [] c f) → H c = some (LamX.CodeO c I.qual) → Vals vs us → spOf G.z F vs H Q E → codeAny (model G.P G.w) A (.call (.ref f) ⟨us, []⟩) (CR (CX G.P G.w) outer G.P G.w H s Q E) s
structure HasW (G : Gd) (lev : Nat) (n : Need) : Prop where
  fs : ∀ p ∈ n.fs, FnW G lev p.1 p.2
  gs : ∀ p ∈ n.gs, GlobOk G.z p.1 p.2
  kw : ∀ p ∈ n.kw, FnWK G lev p.1 p.2.1 p.2.2.1 p.2.2.2
  cl : ∀ p ∈ n.cl, CloW G lev p.1 p.2
  lm : ∀ p ∈ n.lm, G.L.lam p.1 = p.2

/-! ### a def's meaning -/
def start0 (io : List Nat) : Nat → List D → En
  | _, [] => []
  | i, d :: ds => (if io.contains i = true then Sl.o d else Sl.v d) :: start0 io (i + 1) ds
def startE (n : Nat) (io : List Nat) (ds : List D) : En := start0 io 0 ds ++ List.replicate (n - ds.length) .n
def outsE : List Nat → En → Option (List D)
  | [], _ => some []
  | i :: is, ρ => match ρ[i]? with
    | some (.o d) => (outsE is ρ).map (d :: ·)
    | _ => none
def endS (io : List Nat) (fresh : Bool) (r : So) : FO := match r with
  | .nx ρ => if fresh = true then .no else (match outsE io ρ with | some os => .ok .non os | none => .no)
  | .rt d ρ => if fresh = true then .no else (match outsE io ρ with | some os => .ok d os | none => .no)
  | .rf ds ρ => (match outsE io ρ with | some os => .ok (.lst ds) os | none => .no)
  | .er x ρ => (match outsE io ρ with | some os => .er x os | none => .no)
  | _ => .no
structure Df where
  name : Str
  ps : List Str
  N : List Str
  io : List Nat
  fresh : Bool
  body : Bl
  nm : Option (Nat → Nat → Str)
def Df.den (d : Df) (ds : List D) : FO := endS d.io d.fresh (d.body.den (startE d.N.length d.io ds))
def Df.sem (d : Df) : FSem := ⟨d.den, d.io, d.fresh, d.ps.length⟩
def ckOf (d : Df) (st : Stmt) : Ck := ⟨d.N, (defScope st).names, d.io, d.name ++ ".<locals>.", d.nm⟩
def Df.chk (d : Df) (st : Stmt) : Bool := C8.scC d.N d.ps (defScope st) && decide (d.io.Nodup) && (d.io.all fun i => decide (i < d.ps.length)) && d.body.chk (ckOf d st) (defBody st)

theorem start0_get {io : List Nat} : ∀ {ds : List D} {j i : Nat}, (start0 io j ds)[i]? = (ds[i]?).map fun d => if io.contains (j + i) = true then Sl.o d else Sl.v d
  | [], j, i => by simp [start0]
  | d :: ds, j, 0 => by simp [start0]
  | d :: ds, j, i + 1 => by
    simp only [start0, List.getElem?_cons_succ, start0_get (ds := ds)]
    rw [show j + 1 + i = j + (i + 1) by omega]
theorem start0_length {io : List Nat} : ∀ {ds : List D} {j : Nat}, (start0 io j ds).length = ds.length
  | [], _ => rfl
  | d :: ds, j => by simp [start0, start0_length (ds := ds)]
theorem startE_get {n : Nat} {io : List Nat} {ds : List D} {i : Nat} {s : Sl} (h : (startE n io ds)[i]? = some s) : s = .n ∨ ∃ d, ds[i]? = some d ∧ s = if io.contains i = true then Sl.o d else Sl.v d := by
  unfold startE at h
  by_cases hi : i < ds.length
  · rw [List.getElem?_append_left (by rw [start0_length]; exact hi), start0_get] at h
    obtain ⟨d, h1, h2⟩ := Option.map_eq_some_iff.mp h
    rw [Nat.zero_add] at h2
    exact .inr ⟨d, h1, h2.symm⟩
  · rw [List.getElem?_append_right (by rw [start0_length]; omega), List.getElem?_replicate] at h
    split at h
    · cases h; exact .inl rfl
    · cases h
theorem startE_at {n : Nat} {io : List Nat} {ds : List D} {i : Nat} {d : D} (h : ds[i]? = some d) : (startE n io ds)[i]? = some (if io.contains i = true then Sl.o d else Sl.v d) := by
  unfold startE
  have hi := (List.getElem?_eq_some_iff.mp h).1
  rw [List.getElem?_append_left (by rw [start0_length]; exact hi), start0_get, h, Nat.zero_add]
  rfl
theorem start_at {N : List Str} {vs : List V} {i : Nat} {v : V} (h : vs[i]? = some v) : (L2.start N vs)[i]? = some (some v) := by
  unfold L2.start
  have hi := (List.getElem?_eq_some_iff.mp h).1
  rw [List.getElem?_append_left (by rw [List.length_map]; exact hi), List.getElem?_map, h]
  rfl
theorem outsE_get : ∀ {is : List Nat} {ρ : En} {os : List D}, outsE is ρ = some os → is.length = os.length ∧ ∀ (j i : Nat), is[j]? = some i → ∃ d, os[j]? = some d ∧ ρ[i]? = some (.o d)
  | [], ρ, os, h => by cases h; exact ⟨rfl, fun j i h => by simp at h⟩
  | i :: is, ρ, os, h => by
    unfold outsE at h
    split at h
    · rename_i d hd
      obtain ⟨os', h1, rfl⟩ := Option.map_eq_some_iff.mp h
      obtain ⟨l, q⟩ := outsE_get h1
      refine ⟨by simp [l], fun j i' hj => ?_⟩
      cases j with
      | zero =>
        simp at hj
        subst hj
        exact ⟨d, rfl, hd⟩
      | succ j => exact q j i' (by simpa using hj)
    · cases h
section
variable {Z : Zx} {H : Hp} {O : List Addr} {io : List Nat} {as : List Addr} {vs : List V} {ds : List D}
theorem zip_W (h : as.length = io.length) : (An.mk H (io.zip as) O).W = as := by
  show (io.zip as).map (·.2) = as
  exact List.map_snd_zip (by omega)
theorem start_SR {N : List Str} (t : ∀ b ∈ O, Trk H b) (tb : NdefX.TabsN Z.T H) (a : ArgsR Z H O io as vs ds) (hl : ds.length ≤ N.length) : SR Z (An.mk H (io.zip as) O) H O (L2.start N vs) (startE N.length io ds) where
  len := by
    have h0 := a.len
    unfold L2.start startE
    simp only [List.length_append, List.length_map, List.length_replicate, start0_length]
    omega
  val := fun i d h => by
    rcases startE_get h with z | ⟨e, he, z⟩
    · cases z
    · by_cases hc : io.contains i = true
      · rw [if_pos hc] at z; cases z
      · rw [if_neg hc] at z
        cases z
        have hi : i < vs.length := by rw [a.len]; exact (List.getElem?_eq_some_iff.mp he).1
        exact ⟨vs[i], start_at (List.getElem?_eq_getElem hi), a.val i _ _ (List.getElem?_eq_getElem hi) he (by simpa using hc)⟩
  own := fun i d h => by
    rcases startE_get h with z | ⟨e, he, z⟩
    · cases z
    · by_cases hc : io.contains i = true
      · rw [if_pos hc] at z
        cases z
        obtain ⟨j, hj⟩ := List.mem_iff_getElem?.mp (show i ∈ io by simpa using hc)
        have hj' : j < as.length := by rw [a.las]; exact (List.getElem?_eq_some_iff.mp hj).1
        obtain ⟨d', h1, h2, h3⟩ := a.own j i as[j] hj (List.getElem?_eq_getElem hj')
        rw [he] at h1
        cases h1
        exact ⟨as[j], start_at h2, h3, .inl (by rw [zip_W a.las]; exact List.getElem_mem hj')⟩
      · rw [if_neg hc] at z; cases z
  sep := fun i j d e b h1 h2 h3 h4 => by
    have key : ∀ {i : Nat} {d : D}, (startE N.length io ds)[i]? = some (.o d) → (L2.start N vs)[i]? = some (some (.ref b)) → ∃ m, io[m]? = some i ∧ as[m]? = some b := fun {i d} h h' => by
      rcases startE_get h with z | ⟨e, he, z⟩
      · cases z
      · by_cases hc : io.contains i = true
        · obtain ⟨j, hj⟩ := List.mem_iff_getElem?.mp (show i ∈ io by simpa using hc)
          have hj' : j < as.length := by rw [a.las]; exact (List.getElem?_eq_some_iff.mp hj).1
          obtain ⟨d', q1, q2, q3⟩ := a.own j i as[j] hj (List.getElem?_eq_getElem hj')
          rw [start_at q2] at h'
          have e1 : as[j] = b := by simpa using h'
          exact ⟨j, hj, by rw [List.getElem?_eq_getElem hj', e1]⟩
        · rw [if_neg hc] at z; cases z
    obtain ⟨m, q1, q2⟩ := key h1 h3
    obtain ⟨m', q3, q4⟩ := key h2 h4
    obtain ⟨l1, e1⟩ := List.getElem?_eq_some_iff.mp q2
    obtain ⟨l2, e2⟩ := List.getElem?_eq_some_iff.mp q4
    have : m = m' := by
      refine Classical.byContradiction fun ne => ?_
      rcases Nat.lt_or_gt_of_ne ne with z | z
      · exact List.pairwise_iff_getElem.mp a.nd m m' l1 l2 z (by rw [e1, e2])
      · exact List.pairwise_iff_getElem.mp a.nd m' m l2 l1 z (by rw [e1, e2])
    subst this
    rw [q1] at q3
    exact Option.some.inj q3
  tabs := tb
  anc := fun b u h _ _ => h
  dom := fun b h => h
  sub := fun b h => h
  trk := t
  io := fun p hp => by
    obtain ⟨j, hj⟩ := List.mem_iff_getElem?.mp hp
    obtain ⟨h1, h2⟩ := List.getElem?_zip_eq_some.mp hj
    obtain ⟨d, q1, q2, q3⟩ := a.own j p.1 p.2 h1 h2
    refine ⟨start_at q2, d, ?_⟩
    rw [startE_at q1, if_pos (by simpa using List.mem_of_getElem? h1)]
/-- what the body's end tells the caller -/
theorem end_outs {A : An} {H' : Hp} {O' : List Addr} {σ : L2.St} {ρ : En} {os : List D} (hA : A = An.mk H (io.zip as) O) (a : ArgsR Z H O io as vs ds) (s : SR Z A H' O' σ ρ) (ho : outsE io ρ = some os) :
    Ext0 H as H' ∧ ∀ O2 : List Addr, (∀ b ∈ O, b ∈ O2) → (∀ b ∈ O2, b ∈ O') → OutsR Z H' O2 as os := by
  subst hA
  refine ⟨⟨fun b u h1 h2 h3 => s.anc b u h1 (by rw [zip_W a.las]; exact h2) h3, s.dom⟩, fun O2 hO hO2 => ?_⟩
  obtain ⟨l, q⟩ := outsE_get ho
  refine ⟨by rw [a.las, l], fun j b hj => ?_⟩
  have hj' : j < io.length := by rw [← a.las]; exact (List.getElem?_eq_some_iff.mp hj).1
  obtain ⟨d, h1, h2⟩ := q j io[j] (List.getElem?_eq_getElem hj')
  obtain ⟨h3, _⟩ := s.io (io[j], b) (List.mem_of_getElem? (List.getElem?_zip_eq_some.mpr ⟨List.getElem?_eq_getElem hj', hj⟩))
  obtain ⟨b', h4, ⟨xs, es, h5, h6, h7, h8⟩, _⟩ := s.own _ _ h2
  rw [h3] at h4
  cases h4
  obtain ⟨d0, _, _, _, _, _, g, _⟩ := a.own j io[j] b (List.getElem?_eq_getElem hj') hj
  exact ⟨d, h1, xs, es, h5, hO b g, h7, h8.ext (Ext.sub hO2)⟩
end

theorem df_ok {G : Gd} {d : Df} {st : Stmt} {k : Nat} {f : Addr} {dV kV doc pm cdv ct oc : Value} {an od : Option Addr} {osl : Array (Option Value)}
    (lk : G.K.lookup f = some ⟨oc, od, .func (PySem.W.fnOf d.name d.name (defArgs st) (defBody st) (defScope st) dV kV doc pm an cdv ct), osl⟩) (hcd : PySem.W.codeIn G.K cdv d.name = true) (h : d.chk st = true)
    (blt : ∀ x ∈ blts, G.mg x = none) (tab : ∀ nm, d.nm = some nm → ∃ c P, cdv = .ref c ∧ LamX.TabB G.base G.mg c P ∧ (P, nm) ∈ G.L.T ∧ ∀ p ∈ G.L.T, p.1 = P → p.2 = nm) (n : HasW G k d.body.need) : FnG G.P G.w G.K G.mg G.base (k + 1) f (PySem.W.fnOf d.name d.name (defArgs st) (defBody st) (defScope st) dV kV doc pm an cdv ct) d.ps (spOf G.z d.sem) := by
  unfold Df.chk at h
  simp only [Bool.and_eq_true, decide_eq_true_eq] at h
  obtain ⟨⟨⟨h1, h2⟩, h3⟩, h4⟩ := h
  have S := C8.fnScope_by h1
  have hpl : d.ps.length ≤ d.N.length := by
    have := congrArg List.length S.pre
    rw [List.length_take] at this
    omega
  refine fnG_of (N := d.N) lk hcd S (fun vs H Q E q => ?_) fun A hg outer s H vs Q E hr q => ?_
  · obtain ⟨O, as, ds, _, _, a, hl, _⟩ := q
    rw [a.len, hl]
    rfl
  obtain ⟨O, as, ds, t, tb, a, hl, q⟩ := q
  have hl : ds.length = d.ps.length := hl
  have sr : SR G.z (An.mk H (d.io.zip as) O) H O (L2.start d.N vs) (startE d.N.length d.io ds) := start_SR (N := d.N) t tb a (by rw [hl]; exact hpl)
  have las : as.length = d.io.length := a.las
  generalize hA0 : (An.mk H (d.io.zip as) O) = A0 at sr
  have c : SCxt (cxOf (CX G.P G.w) G.P G.w G.K G.mg G.base d.N d.name (defScope st) f cdv A outer s H E) G.L A0 (fun cls dd _ H => E cls dd H) k (ckOf d st) := by
    refine ⟨⟨rfl, S.nd, rfl, fun x c h => .inl h, fun x _ => .inl rfl, takes_of rfl rfl rfl rfl, hr, blt, hg, passes_of rfl, rfl, tab⟩, S.kind, rfl, ?_⟩
    subst hA0
    exact List.map_fst_zip (by omega)
  have n' : Has (cxOf (CX G.P G.w) G.P G.w G.K G.mg G.base d.N d.name (defScope st) f cdv A outer s H E) G.L k d.body.need := ⟨n.fs, n.gs, n.kw, n.cl, n.lm⟩
  refine ⟨_, d.body.ok c n' _ h4, startE d.N.length d.io ds, O, sr, ?_⟩
  have q : match endS d.io d.fresh (d.body.den (startE d.N.length d.io ds)) with
    | .no => False
    | .ok e os => (d.fresh = true → ∃ es, e = .lst es ∧ ∀ p xs H', Ext0 H as H' → NdefX.TabsN G.z.T H' → H p = none → H' p = some (.lst xs) → Reps G.z H' (p :: O) xs es → OutsR G.z H' (p :: O) as os → Q (.ref p) H') ∧
        (d.fresh = false → ∀ v H', Ext0 H as H' → NdefX.TabsN G.z.T H' → OutsR G.z H' O as os → Rep G.z H' O v e → Q v H')
    | .er x os => ∀ cls dd H', Ext0 H as H' → NdefX.TabsN G.z.T H' → OutsR G.z H' O as os → RepX G.z H' O cls dd x → E cls dd H' := q
  have outs : ∀ {H' : Hp} {O' : List Addr} {σ : L2.St} {ρ : En} {os : List D}, SR G.z A0 H' O' σ ρ → outsE d.io ρ = some os → Ext0 H as H' ∧ (∀ O2 : List Addr, (∀ b ∈ O, b ∈ O2) → (∀ b ∈ O2, b ∈ O') → OutsR G.z H' O2 as os) ∧ NdefX.TabsN G.z.T H' ∧ ∀ b ∈ O, b ∈ O' := fun {H' O' σ ρ os} s' ho => by
    have := end_outs (io := d.io) hA0.symm a s' ho
    exact ⟨this.1, this.2, s'.tabs, fun b hb => s'.sub b (by rw [← hA0]; exact hb)⟩
  show SoP G.z A0 (fun cls dd _ H => E cls dd H) _ H O (d.body.den (startE d.N.length d.io ds))
  revert q
  generalize d.body.den (startE d.N.length d.io ds) = r
  intro q
  cases r with
  | no => exact q
  | bk ρ => exact q.elim
  | ct ρ => exact q.elim
  | nx ρ =>
    unfold endS at q
    intro σ' H' O' e' s'
    cases hfr : d.fresh with
    | true => simp only [hfr, if_true] at q
    | false =>
      simp only [hfr] at q
      cases ho : outsE d.io ρ with
      | none => simp only [ho] at q; exact q.elim
      | some os =>
        simp only [ho] at q
        obtain ⟨x0, x1, x2, x3⟩ := outs s' ho
        exact q.2 trivial .non H' x0 x2 (x1 O (fun _ h => h) x3) .non
  | rt e ρ =>
    unfold endS at q
    intro v σ' H' O' e' s' rv
    cases hfr : d.fresh with
    | true => simp only [hfr, if_true] at q
    | false =>
      simp only [hfr] at q
      cases ho : outsE d.io ρ with
      | none => simp only [ho] at q; exact q.elim
      | some os =>
        simp only [ho] at q
        obtain ⟨x0, x1, x2, x3⟩ := outs s' ho
        exact q.2 trivial v H' x0 x2 (x1 O (fun _ h => h) x3) (rv.ext (Ext.sub x3))
  | rf es ρ =>
    unfold endS at q
    intro p xs σ' H' O' e' g1 g2 g3 g4 g5 s' rs
    have hHp : H p = none := by rw [← hA0] at g1; exact g1
    have hpO : p ∉ O := by rw [← hA0] at g2; exact g2
    cases ho : outsE d.io ρ with
    | none => simp only [ho] at q
    | some os =>
      simp only [ho] at q
      obtain ⟨x0, x1, x2, x3⟩ := outs s' ho
      have sub : ∀ b ∈ p :: O, b ∈ O' := fun b hb => by
        rcases List.mem_cons.mp hb with rfl | hb
        · exact g3
        · exact x3 b hb
      cases hfr : d.fresh with
      | true =>
        obtain ⟨es', h1, h2⟩ := q.1 hfr
        cases h1
        exact h2 p xs H' x0 x2 hHp g5 (rs.ext (Ext.sub sub)) (x1 (p :: O) (fun b hb => List.mem_cons_of_mem _ hb) sub)
      | false => exact q.2 hfr (.ref p) H' x0 x2 (x1 O (fun _ h => h) x3) (.lst ⟨g5, hpO⟩ (rs.ext (Ext.sub x3)))
  | er x ρ =>
    unfold endS at q
    intro σ' cls dd H' O' e' s' rx
    cases ho : outsE d.io ρ with
    | none => simp only [ho] at q
    | some os =>
      simp only [ho] at q
      obtain ⟨x0, x1, x2, x3⟩ := outs s' ho
      refine q cls dd H' x0 x2 (x1 O (fun _ h => h) x3) ?_
      obtain ⟨C, q1, q2, q3⟩ := rx
      refine ⟨C, q1, q2, ?_⟩
      rcases q3 with q3 | ⟨b, fs, z1, z2, z3, z4⟩
      · exact .inl q3
      · exact .inr ⟨b, fs, z1, z2.ext (Ext.sub x3) (fun _ z => nomatch z), z3, z4.ext (Ext.sub x3)⟩
end Ev
set_option Elab.async false
set_option maxRecDepth 100000
set_option maxHeartbeats 4000000
/-! EvO: the end of a law. -/
namespace Ev
open PySem PySem.Spec PyProof.Rows L2

/-- what is tracked as the law begins: the script (if the written part does not tell it), the tables -/
def H0 (K : PySem.W.Frag) (a : Addr) (oa : Obj) (ns : List Int) (tabs : List Addr) : Hp := fun b =>
  if b = a then (if K.lookup a = none then some (.frz oa (.lst (ns.map V.int))) else none) else if b ∈ tabs then some (.tbl #[]) else none
section
variable {K : PySem.W.Frag} {a : Addr} {oa : Obj} {ns : List Int} {tabs : List Addr}
theorem H0_tab (h : a ∉ tabs) {b : Addr} (hb : b ∈ tabs) : H0 K a oa ns tabs b = some (.tbl #[]) := by
  unfold H0
  rw [if_neg (fun z => h (by rw [← z]; exact hb)), if_pos hb]
theorem H0_cases {b : Addr} {u : HO} (h : H0 K a oa ns tabs b = some u) : (b = a ∧ K.lookup a = none ∧ u = .frz oa (.lst (ns.map V.int))) ∨ (b ≠ a ∧ b ∈ tabs ∧ u = .tbl #[]) := by
  unfold H0 at h
  by_cases hb : b = a
  · rw [if_pos hb] at h
    by_cases hk : K.lookup a = none
    · rw [if_pos hk] at h
      exact .inl ⟨hb, hk, (Option.some.inj h).symm⟩
    · rw [if_neg hk] at h; cases h
  · rw [if_neg hb] at h
    by_cases ht : b ∈ tabs
    · rw [if_pos ht] at h
      exact .inr ⟨hb, ht, (Option.some.inj h).symm⟩
    · rw [if_neg ht] at h; cases h
end
/-- the script lies there -/
def ScrAt (K : PySem.W.Frag) (H : Hp) (a : Addr) (ns : List Int) : Prop := (∃ o, H a = some (.frz o (.lst (ns.map V.int)))) ∨ SqL K (fun _ => none) a (ns.map V.int)
theorem law_G {P : Program} {w : World} {K : PySem.W.Frag} {mg mb : Str → Option Value} {k : Nat} {fa a : Addr} {cs : List (Addr × Addr)} {fd : FuncData} {x : Str} {sp : Sp} {s1 : Shared} {vs : List Value} {ns : List Int}
    (kin : K.In s1.heap) (hmg : s1.heap.Ns mainGlobals mg) (hmb : s1.heap.Ns builtinsNs mb) (hbb : ∀ x : Str, x ≠ "__name__" → mb x = bootBuiltins x) (lim : s1.heap.NoLimit) (hgen : s1.gens = #[])
    (hT : ∀ p ∈ cs, s1.heap.get? p.2 = some { cls := .none, data := .fields #[] }) (nT : ∀ p ∈ cs, K.lookup p.2 = none) (hC : ∀ p ∈ cs, PySem.W.CodeHd s1.heap p.1 p.2)
    (hbm : ∃ (bm : Addr) (ob : Obj), mg "__builtins__" = some (.ref bm) ∧ bm ≠ builtinsNs ∧ s1.heap.get? bm = some ob ∧ ob.cls = .type "module" ∧ ob.dict = some builtinsNs ∧ ob.data = .plain)
    (ha : s1.heap.get? a = some { cls := .type "list", data := .seq vs.toArray }) (hi : IntsAre vs ns) (hl : ns.length ≤ sizeLine) (hr : Room k callerA)
    (F : ∀ base : Heap, K.In base → base.Ns mainGlobals mg → (∀ p ∈ cs, LamX.TabB base mg p.1 p.2) → FnG P w K mg base k fa fd [x] sp) (hbind : ∀ (s : Shared) (u : Value), BindsTo s fd ⟨[u], []⟩ [(x, u)])
    (hsp : ∀ H : Hp, (∀ p ∈ cs, H p.2 = some (.tbl #[])) → ScrAt K H a ns → sp [.ref a] H (fun v _ => v = .bl true) fun _ _ _ => False) :
    codeAny (model P w) callerA (.call (.ref fa) ⟨[.ref a], []⟩) (fun r s' => r = .ok (.ret (.bool true)) ∧ OldK s1.heap s'.heap ∧ s'.os = s1.os ∧ AllBare s'.gens) s1 := by
  have rvs := vals_ints hi
  have lvs := hi.length
  let tabs := cs.map (·.2)
  have tabH : ∀ b ∈ tabs, s1.heap.get? b = some { cls := .none, data := .fields #[] } := fun b hb => by
    obtain ⟨p, hp, rfl⟩ := List.mem_map.mp hb
    exact hT p hp
  have tabK : ∀ b ∈ tabs, K.lookup b = none := fun b hb => by
    obtain ⟨p, hp, rfl⟩ := List.mem_map.mp hb
    exact nT p hp
  have aT : a ∉ tabs := fun z => by
    have q := tabH a z
    rw [ha] at q
    have q := congrArg Obj.data (Option.some.inj q)
    cases q
  let oa : Obj := { cls := .type "list", data := .seq vs.toArray }
  let H := H0 K a oa ns tabs
  have cases_ : ∀ {b : Addr} {u : HO}, H b = some u → (b = a ∧ K.lookup a = none ∧ u = .frz oa (.lst (ns.map V.int))) ∨ (b ≠ a ∧ b ∈ tabs ∧ u = .tbl #[]) := fun h => H0_cases h
  -- nothing else is tracked
  have none_of : ∀ {b : Addr} {o : Obj}, s1.heap.get? b = some o → (∀ vs n, o.data ≠ .seq vs n) → o.data ≠ .fields #[] → H b = none := fun {b o} e n1 n2 => by
    cases q : H b with
    | none => rfl
    | some u =>
      exfalso
      rcases cases_ q with ⟨rfl, _, _⟩ | ⟨_, hb, _⟩
      · rw [ha] at e
        cases e
        exact n1 _ _ rfl
      · rw [tabH b hb] at e
        cases e
        exact n2 rfl
  have none_K : ∀ {b : Addr} {o : Obj}, K.lookup b = some o → H b = none := fun {b o} e => by
    cases q : H b with
    | none => rfl
    | some u =>
      exfalso
      rcases cases_ q with ⟨rfl, hk, _⟩ | ⟨_, hb, _⟩
      · rw [hk] at e; cases e
      · rw [tabK b hb] at e; cases e
  let base := hidT s1.heap H
  have ns_ : ∀ {b : Addr} {m : Str → Option Value}, s1.heap.Ns b m → base.Ns b m := fun {b m} ⟨o, es, ep, e, d, r⟩ =>
    ⟨o, es, ep, hidT_get e (none_of e (fun _ _ z => by rw [d] at z; cases z) fun z => by rw [d] at z; cases z), d, r⟩
  have kb : K.In base := fun b o e => hidT_get (kin b o e) (none_K e)
  have hM : L2.Mod K mg base := ⟨kb, ns_ hmg, ⟨mb, ns_ hmb, hbb⟩, by
    obtain ⟨m, h1, h2⟩ := lim
    exact ⟨m, ns_ h1, h2⟩⟩
  have TB : ∀ p ∈ cs, LamX.TabB base mg p.1 p.2 := fun p hp => by
    have e0 := hT p hp
    refine ⟨?_, ?_, fun z => ?_⟩
    · obtain ⟨o, us, fl, tf, fs, tg, inF, tx, tt, e1, r1, r2, r3, r⟩ := hC p hp
      refine ⟨o, us, fl, tf, fs, tg, inF, tx, tt, hidT_get e1 (none_of e1 (fun _ _ z => by rw [r2] at z; cases z) fun z => ?_), r1, r2, r3, r⟩
      rw [r2] at z
      have z := Data.fields.inj z
      rw [z] at r3
      simp at r3
    · obtain ⟨bm, ob, b1, b2, b3, b4, b5, b6⟩ := hbm
      refine ⟨bm, ob, b1, b2, fun z => ?_, fun z => ?_, hidT_get b3 (none_of b3 (fun _ _ z => by rw [b6] at z; cases z) fun z => by rw [b6] at z; cases z), b4, b5, b6⟩
      · obtain ⟨o, es, ep, e, d, _⟩ := hmg
        rw [z, e] at b3
        cases b3
        rw [d] at b6
        cases b6
      · rw [z, e0] at b3
        cases b3
        cases b6
    · obtain ⟨o, es, ep, e, d, _⟩ := hmg
      rw [z, e0] at e
      cases e
      cases d
  have hok : HOk P w H s1.heap := fun b u h => by
    rcases cases_ h with ⟨rfl, _, rfl⟩ | ⟨_, hb, rfl⟩
    · exact ⟨ha, by rw [List.length_map]; exact hl, vs, _, rvs, ha⟩
    · exact tabH b hb
  have e0 : Env0 P w K mg base callerA [] s1 H := ⟨rfl, hM, fun b o e => of_hidT e, Nat.le_of_eq (hidT_size _ _), trivial, fun b hb => (nomatch (show b ∈ ([] : List Addr) from hb)), hok, .of_eq hgen⟩
  have scr : ScrAt K H a ns := by
    cases hk : K.lookup a with
    | none => exact .inl ⟨oa, by show H0 K a oa ns tabs a = _; unfold H0; rw [if_pos rfl, if_pos hk]⟩
    | some o =>
      have e := kin a o hk
      rw [ha] at e
      cases e
      exact .inr (.inr ⟨_, vs.toArray, _, hk, rfl, rfl, rfl, by rw [List.size_toArray, lvs]; exact hl, by simpa using rvs⟩)
  refine codeAny_mono ((F base kb (ns_ hmg) TB).run callerA rfl hr [] s1 H ⟨[.ref a], []⟩ [.ref a] [.ref a] _ _ e0 (hbind s1 (.ref a)) (.cons rfl .nil) (hsp H (fun p hp => H0_tab aT (List.mem_map.mpr ⟨p, hp, rfl⟩)) scr)) fun r s' h => ?_
  match r, h with
  | .error e, h =>
    obtain ⟨_, _, _, _, _, _, _, _, _, _, _, _, z⟩ := h
    exact z.elim
  | .ok .next, h => exact False.elim h
  | .ok .brk, h => exact False.elim h
  | .ok .cont, h => exact False.elim h
  | .ok (.ret u), ⟨v, H', os, bare, un, hok', rv, q⟩ =>
    have q : v = .bl true := q
    subst q
    obtain rfl : u = Value.bool true := rv
    have stays : ∀ b o, b ∉ tabs → s1.heap.get? b = some o → s'.heap.get? b = some o := fun b o nb e => by
      cases q : H b with
      | none => exact un.keep b o e q (fun z => nomatch (show b ∈ ([] : List Addr) from z)) (by simp)
      | some u =>
        rcases cases_ q with ⟨rfl, _, rfl⟩ | ⟨_, hb, _⟩
        · have z := un.frzs b oa _ q
          obtain ⟨e2, _⟩ := hok' b _ z
          rw [ha] at e
          cases e
          exact e2
        · exact absurd hb nb
    have grows : ∀ p ∈ cs, ∃ more : Array Value, s'.heap.get? p.2 = some { cls := .none, data := .fields more } := fun p hp => by
      obtain ⟨more, z⟩ := un.tbls p.2 #[] (H0_tab aT (List.mem_map.mpr ⟨p, hp, rfl⟩))
      exact ⟨_, hok' p.2 _ z⟩
    refine ⟨rfl, ⟨fun b o e => ?_, fun b o e => ?_⟩, os, bare⟩
    · by_cases hb : b ∈ tabs
      · obtain ⟨p, hp, rfl⟩ := List.mem_map.mp hb
        obtain ⟨more, hm⟩ := grows p hp
        rw [hT p hp] at e
        cases e
        exact .inr (.inl ⟨((hC p hp).tab (hT p hp)).isCodeTable, rfl, #[], more, rfl, by rw [Array.empty_append]; exact hm⟩)
      · exact .inl (stays b o hb e)
    · by_cases hb : b ∈ tabs
      · obtain ⟨p, hp, rfl⟩ := List.mem_map.mp hb
        obtain ⟨more, hm⟩ := grows p hp
        exact ⟨_, hm⟩
      · exact ⟨o, stays b o hb e⟩

/-- the tables of the module's defs are empty as the law begins -/
def TabsE (q : Program) (K : PySem.W.Frag) (mg : Str → Option Value) (h : Heap) : Prop := ∀ (x : Str), ((recsOf q).any fun e => e.name == x) = true → ∀ (fa c P : Addr) (o : Obj) (fd : FuncData) (e : Value) (dd : Option Addr) (vs : Array Value) (sl : Array (Option Value)),
  mg x = some (.ref fa) → K.lookup fa = some o → o.data = .func fd → fd.code = .ref c → K.lookup c = some ⟨e, dd, .fields vs, sl⟩ → vs[11]? = some (.ref P) → h.get? P = some { cls := .none, data := .fields #[] } ∧ PySem.W.CodeHd h c P
/-- what is known of the law at the head's heap -/
def LawG (l : PySem.W.OpenLaw) (w : World) (K : PySem.W.Frag) (k n : Nat) (x : Str) (mg : Str → Option Value) (fa : Addr) (h : Heap) : Prop :=
  ∃ (fd : FuncData) (cs : List (Addr × Addr)) (sp : Sp), (∀ p ∈ cs, h.get? p.2 = some { cls := .none, data := .fields #[] }) ∧ (∀ p ∈ cs, K.lookup p.2 = none) ∧ (∀ p ∈ cs, PySem.W.CodeHd h p.1 p.2) ∧ (∀ (s : Shared) (u : Value), BindsTo s fd ⟨[u], []⟩ [(x, u)]) ∧
    (∀ (H : Hp) (a : Addr) (ns : List Int), ns.length ≤ n → (∀ z ∈ ns, Builtin.Int.intBits z ≤ 1048576) → (∀ p ∈ cs, H p.2 = some (.tbl #[])) → ScrAt K H a ns → sp [.ref a] H (fun v _ => v = .bl true) fun _ _ _ => False) ∧
    ∀ base : Heap, K.In base → base.Ns mainGlobals mg → (∀ p ∈ cs, LamX.TabB base mg p.1 p.2) → FnG l.prog w K mg base k fa fd [x] sp
theorem walk_G {l : PySem.W.OpenLaw} {n k : Nat} {q : Program} {loose : List Str} {XP : (Str → Option Value) → Heap → Prop} {YP : World → Heap → Prop} {d : DefRec} {K : Params → PySem.W.Frag} {x : Str}
    (hn : l.most = some n) (hn2 : n ≤ sizeLine) (hdf : d.params.defaults = []) (hr : Room k callerA) (hY : ∀ (w : World) (h : Heap), YP w h → (K w.params).In h)
    (F : ∀ (w : World) (mg : Str → Option Value) (fa : Addr) (h : Heap), YP w h → (K w.params).In h → h.Ns mainGlobals mg → mg d.name = some (.ref fa) → TabsE q (K w.params) mg h → LawG l w (K w.params) k n x mg fa h) :
    PySem.W.WalkO q loose XP YP l.row.toRowW d [] (fun f vs => PySem.call f vs) := by
  refine Att.attach_callB hn hdf fun w s0 s1 mg mb fa o pm cd doc a vs ns G Y ho hd hcd hmg hobj hints hlen hbits hg => ?_
  have KX := hY w _ Y
  have te : TabsE q (K w.params) mg s1.heap := fun y hy fa' c P o1 fd1 e dd vs1 sl m0 k1 k2 k3 k4 k5 => by
    obtain ⟨r, hr1, hr2⟩ := List.any_eq_true.mp hy
    have hr2 : r.name = y := beq_iff_eq.mp hr2
    obtain ⟨a', o', fd', c', P', t1, t2, t3, t4, t5, t6⟩ := G.T.tab r hr1
    rw [hr2, m0] at t1
    cases t1
    have g1 := KX _ _ k1
    rw [g1] at t2
    cases t2
    rw [k2] at t3
    cases t3
    rw [k3] at t4
    cases t4
    have hd := PySem.W.CodeHd.of t5 t6
    obtain ⟨⟨oc, vc, e1, _, e3, e4⟩, hP⟩ := t6
    have g2 := KX _ _ k4
    rw [g2] at e1
    cases e1
    cases e3
    rw [k5] at e4
    cases e4
    exact ⟨hP, hd⟩
  obtain ⟨fd, cs, sp, hT, nT, C, hb, hsp, hF⟩ := F w mg fa _ Y KX G.T.g hmg te
  exact law_G KX G.T.g G.T.b G.T.builtins G.T.nolimit hg hT nT C G.T.bmain hobj hints (Nat.le_trans hlen hn2) hr hF hb fun H hH hS => hsp H a ns hlen hbits hH hS
end Ev
set_option Elab.async false
set_option maxRecDepth 100000
set_option maxHeartbeats 4000000
/-! EvP: more expressions: what is never reached, own lists' items and methods, index, list(range), tuple[::-1], {}. -/
namespace Ev
open PySem PySem.Spec PyProof.Rows L2

/-! ### what is never reached -/
def Ex.stuck : Ex where
  den := fun _ => .no
  tst := fun _ => .no
  chk := fun _ _ => true
  need := .nil
  ok := fun _ _ _ _ => ⟨fun pins s σ H Q I ⟨_, _, _, q⟩ => q.elim⟩
  okT := fun _ _ _ _ => ⟨fun pins s σ H Q I ⟨_, _, _, q⟩ => q.elim⟩
def Sm.stuck : Sm where
  den := fun _ => .no
  chk := fun _ _ => true
  need := .nil
  ok := fun _ _ _ _ => ⟨fun pins s σ H E I ⟨_, _, _, q⟩ => q.elim⟩
def Bl.stuck : Bl where
  den := fun _ => .no
  chk := fun _ _ => true
  need := .nil
  ok := fun _ _ _ _ => ⟨fun pins s σ H E I ⟨_, _, _, q⟩ => q.elim⟩

/-! ### own lists: an item, the length -/
def lstAt (ρ : En) (i : Nat) : Option (List D) := match ρ[i]? with
  | some (.o (.lst ds)) => some ds
  | _ => none
theorem lstAt_eq {ρ : En} {i : Nat} {ds : List D} (h : lstAt ρ i = some ds) : ρ[i]? = some (.o (.lst ds)) := by
  unfold lstAt at h
  split at h
  · rename_i e he; cases h; exact he
  · cases h
def oidxD (i : Nat) (a : Ex) : En → Out D := fun ρ => if isOwn ρ i = true then (a.den ρ).bind fun d ρ1 => Out.lift (match lstAt ρ1 i, d with | some ds, .int j => atI ds j | _, _ => none) ρ1 else .no
def Ex.oidx (i : Nat) (a : Ex) : Ex := .plain (oidxD i a) (fun k x => match x with | .Subscript (.Name y _) ix _ => k.vis i y && plainIx ix && a.chk k ix | _ => false) a.need (fun {X L A W lev k} c n x h => by
  split at h
  · simp only [Bool.and_eq_true] at h
    obtain ⟨c1, c2, c3, c4⟩ := c.visOk h.1.1
    refine PE.weak (pe_ix ix_seq (pe_var c1 c2 c3 c4) (a.ok c n _ h.2) (plainIx_of h.1.2)) fun σ H Q ⟨ρ, O, s, q⟩ => ?_
    unfold oidxD at q
    split at q
    · rename_i ho
      unfold isOwn at ho
      split at ho
      · rename_i d0 h0
        obtain ⟨p, hp, _⟩ := s.own i d0 h0
        refine ⟨_, hp, tS_bind s q fun d ρ1 v H1 O1 e1 s1 r1 hk => ?_⟩
        obtain ⟨z, hz, hk⟩ := post_lift hk
        have hk2 := hk
        clear hk
        split at hz
        · rename_i ds j hds
          cases r1
          obtain ⟨p', hp', ⟨xs, es, g1, g2, g3, g4⟩, _⟩ := s1.own i _ (lstAt_eq hds)
          rw [hp] at hp'
          cases hp'
          cases g1
          obtain ⟨u, hu, ru⟩ := atI_reps g4 hz
          exact .inl ⟨p, xs, j, u, rfl, rfl, SqL.of g3, hu, hk2 u H1 O1 e1 s1 ru⟩
        · cases hz
      · cases ho
    · exact q.elim
  · cases h) (fun k x h => by split at h <;> first | rfl | cases h)
theorem len_blt : ("len" : Str) ∈ blts := by decide +kernel
def olenD (i : Nat) : En → Out D := fun ρ => Out.lift ((lstAt ρ i).map fun ds => .int ds.length) ρ
def Ex.olen (i : Nat) : Ex := .plain (olenD i) (fun k x => match x with | .Call (.Name f _) [.Name y _] [] _ => decide (f = "len") && k.gl f && k.vis i y | _ => false) .nil (fun {X L A W lev k} c n x h => by
  split at h
  · simp only [Bool.and_eq_true, decide_eq_true_eq] at h
    obtain ⟨⟨rfl, h1⟩, h2⟩ := h
    obtain ⟨c1, c2, c3, c4⟩ := c.visOk h2
    obtain ⟨g1, _, _⟩ := c.glOk h1
    refine PE.weak (pe_callB (call_len_seq (X := X)) g1 (c.blt _ len_blt) boot_len (pa_cons (pe_var c1 c2 c3 c4) pa_nil (starEach_cons rfl)) (by decide) (by decide) (starEach_cons rfl) rfl) fun σ H Q ⟨ρ, O, s, q⟩ => ?_
    obtain ⟨z, hz, q⟩ := post_lift q
    obtain ⟨ds, hds, rfl⟩ := Option.map_eq_some_iff.mp hz
    obtain ⟨p, hp, ⟨xs, es, g1, g2, g3, g4⟩, _⟩ := s.own i _ (lstAt_eq hds)
    cases g1
    refine ⟨_, hp, p, xs, rfl, .inl (SqL.of g3), ?_⟩
    rw [g4.length]
    exact q _ H O (Ext.refl H O) s (.int _)
  · cases h) (fun k x h => by split at h <;> first | rfl | cases h)

/-! ### methods -/
def notSuper : Expr → Bool
  | .Call (.Name id _) [] [] _ => id != "super"
  | _ => true
theorem base_of {o : Expr} {n : Str} {env : PySem.Env} (h : notSuper o = true) : attributeBase o n env (eval o env) = eval o env := by
  unfold attributeBase
  split
  · rename_i id p pos
    have h : (id != "super") = true := h
    rw [h]
    simp only [Bool.true_or, if_true, bind_pure]
  · rfl
theorem few_of {es : List Expr} {env : PySem.Env} {cpos : Pos} (h : es.all notStar = true) (hl : es.length < 29) : ((backTo cpos (starEach es env)).all (fun x => !x.1) && (backToKw cpos (keywordEach [] env)).all (fun x => x.1.isSome)
      && decide (es.length + ([] : List Keyword).length + (if ([] : List Keyword).isEmpty then 0 else 1) < 30)) = true := by
  have h1 : (backTo cpos (starEach es env)).all (fun x => !x.1) = true := by
    have := noStars (env := env) (pos := cpos) h
    rw [List.any_eq_false] at this
    rw [List.all_eq_true]
    intro x hx
    simpa using this x hx
  rw [h1]
  have h2 : decide (es.length + ([] : List Keyword).length + (if ([] : List Keyword).isEmpty then 0 else 1) < 30) = true := decide_eq_true (by simp; omega)
  rw [h2]
  rfl
/-- own.append(e) -/
def appD (i : Nat) (d : D) (ρ : En) : So := match lstAt ρ i with
  | some ds => if ds.length < sizeLine then .nx (ρ.set i (.o (.lst (ds ++ [d])))) else .no
  | none => .no
def Sm.app (i : Nat) (e : Ex) : Sm where
  den := fun ρ => if isOwn ρ i = true then So.after (e.den ρ) (appD i) else .no
  chk := fun k x => match x with | .Expr (.Call (.Attribute (.Name y _) m apos) [x] [] cpos) _ => decide (m = "append") && k.vis i y && notStar x && decide (apos.endLine = cpos.line) && e.chk k x | _ => false
  need := e.need
  ok := fun {X L A W lev k} c n x h => by
    split at h
    · rename_i y p1 m apos x cpos pos
      simp only [Bool.and_eq_true, decide_eq_true_eq] at h
      obtain ⟨⟨⟨⟨rfl, h1⟩, h2⟩, h3⟩, h4⟩ := h
      obtain ⟨c1, c2, c3, c4⟩ := c.cx.visOk h1
      have pa : [x].all notStar = true := by rw [List.all_cons, h2]; rfl
      refine PS.weak (ps_expr (pe_bm PySem.F.plainAttrs_list PySem.F.slot_list_append PySem.F.type_list_append mt_append (pe_var c1 c2 c3 c4) (pa_cons (e.ok c.cx n x h4) pa_nil (starEach_cons h2)) (base_of rfl) (few_of pa (by simp)) (by simp [h3]) (starEach_cons h2) rfl) rfl) fun E σ H ⟨ρ, O, s, q⟩ => ?_
      dsimp only at q
      split at q
      · rename_i ho
        unfold isOwn at ho
        split at ho
        · rename_i d0 h0
          obtain ⟨p, hp, ⟨xs0, ds0, _, _, g0, _⟩, _⟩ := s.own i d0 h0
          refine ⟨_, hp, .inl ⟨rfl, xs0, SqL.of g0⟩, ρ, O, s, (after_post q).mono (fun d ρ1 z v H' O' e' s' r => ?_) fun _ _ z => z⟩
          unfold appD at z
          split at z
          · rename_i ds hds
            split at z
            · rename_i hz
              obtain ⟨p', hp', ⟨xs, es, g1, g2, g3, g4⟩, _⟩ := s'.own i _ (lstAt_eq hds)
              rw [hp] at hp'
              cases hp'
              cases g1
              obtain ⟨e2, s2⟩ := s'.write (lstAt_eq hds) hp (g4.append (.cons r .nil))
              exact ⟨p, xs, v, rfl, rfl, g3, by rw [g4.length]; exact hz, z σ _ O' (e'.trans e2) s2⟩
            · exact z.elim
          · exact z.elim
        · cases ho
      · exact q.elim
    · cases h
/-- the first place of a text among texts -/
def strsOf : List D → Option (List Str)
  | [] => some []
  | .str z :: r => (strsOf r).map (z :: ·)
  | _ :: _ => none
theorem strsOf_eq : ∀ {ds : List D} {zs : List Str}, strsOf ds = some zs → ds = zs.map D.str
  | [], zs, h => by cases h; rfl
  | .str i :: r, zs, h => by
    obtain ⟨ms, h1, rfl⟩ := Option.map_eq_some_iff.mp (show (strsOf r).map (i :: ·) = some zs from h)
    rw [strsOf_eq h1]
    rfl
  | .non :: _, _, h | .bl _ :: _, _, h | .int _ :: _, _, h | .tup _ :: _, _, h | .lst _ :: _, _, h | .dic _ :: _, _, h | .clo _ _ :: _, _, h | .obj _ _ :: _, _, h | .scr _ :: _, _, h => by cases h
theorem reps_strs_eq {Z : Zx} {H : Hp} {O : List Addr} : ∀ {vs : List V} {ns : List Str}, Reps Z H O vs (ns.map D.str) → vs = ns.map V.str
  | _, [], .nil => rfl
  | _, n :: ns, .cons r t => by
    cases r
    rw [reps_strs_eq t]
    rfl
def ixStr (z : Str) : List Str → Option Nat
  | [] => none
  | y :: ys => if y = z then some 0 else (ixStr z ys).map (· + 1)
theorem ixStr_spec {z : Str} : ∀ {ys : List Str} {j : Nat}, ixStr z ys = some j → ys[j]? = some z ∧ ∀ m, m < j → ys[m]? ≠ some z
  | [], j, h => by cases h
  | y :: ys, j, h => by
    unfold ixStr at h
    split at h
    · rename_i e
      cases h
      subst e
      exact ⟨rfl, fun m hm => absurd hm (Nat.not_lt_zero m)⟩
    · rename_i e
      obtain ⟨j', h1, rfl⟩ := Option.map_eq_some_iff.mp h
      obtain ⟨a, b⟩ := ixStr_spec h1
      refine ⟨by simpa using a, fun m hm => ?_⟩
      cases m with
      | zero => simpa using e
      | succ m => simpa using b m (by omega)
def indexD : D → D → Option D
  | .tup ds, .str z => (strsOf ds).bind fun zs => (ixStr z zs).map fun (j : Nat) => .int (j : Nat)
  | .lst ds, .str z => (strsOf ds).bind fun zs => (ixStr z zs).map fun (j : Nat) => .int (j : Nat)
  | _, _ => none
def isL : D → Bool
  | .lst _ => true
  | _ => false
def lindexD (a b : Ex) : En → Out D := fun ρ => (a.den ρ).bind fun x ρ1 => if isL x = true then (b.den ρ1).bind fun y ρ2 => Out.lift (indexD x y) ρ2 else .no
def indexChk (a b : Ck → Expr → Bool) (k : Ck) (x : Expr) : Bool := match x with
  | .Call (.Attribute o m apos) [y] [] cpos => decide (m = "index") && notSuper o && notStar y && decide (apos.endLine = cpos.line) && a k o && b k y
  | _ => false
theorem flat_strsV (zs : List Str) : (zs.map V.str).all flatV = true := by
  rw [List.all_map]
  exact List.all_eq_true.mpr fun _ _ => rfl
/-- a.index(b), a list of texts -/
def Ex.lindex (a b : Ex) : Ex := .plain (lindexD a b) (indexChk a.chk b.chk) (a.need.app b.need) (fun {X L A W lev k} c n x h => by
  unfold indexChk at h
  split at h
  · rename_i o m apos y cpos
    simp only [Bool.and_eq_true, decide_eq_true_eq] at h
    obtain ⟨⟨⟨⟨⟨rfl, h1⟩, h2⟩, h3⟩, h4⟩, h5⟩ := h
    have pa : [y].all notStar = true := by rw [List.all_cons, h2]; rfl
    refine PE.weak (pe_bm PySem.F.plainAttrs_list PySem.F.slot_list_index PySem.F.type_list_index mt_index (a.ok c n.left o h4) (pa_cons (b.ok c n.right y h5) pa_nil (starEach_cons h2)) (base_of h1) (few_of pa (by simp)) (by simp [h3]) (starEach_cons h2) rfl) fun σ H Q ⟨ρ, O, s, q⟩ => ?_
    refine tS_bind s q fun d ρ1 v H1 O1 e1 s1 r1 hk => ?_
    cases d with
    | lst ds =>
      obtain ⟨p, xs, rfl, g1, g2, g3⟩ := r1.lstH
      rw [if_pos (by rfl)] at hk
      refine ⟨.inl ⟨rfl, xs, SqL.of g1⟩, tS_bind s1 hk fun e ρ2 w H2 O2 e2 s2 r2 hk2 => ?_⟩
      obtain ⟨z, hz, kk⟩ := post_lift hk2
      cases e with
      | str y =>
        obtain ⟨zs, hs, hz⟩ := Option.bind_eq_some_iff.mp (show (strsOf ds).bind _ = some z from hz)
        obtain ⟨j, hj, rfl⟩ := Option.map_eq_some_iff.mp hz
        have hds := strsOf_eq hs
        subst hds
        cases r2
        obtain ⟨p', xs', ep, f1, f2, f3⟩ := (r1.ext e2).lstH
        cases ep
        have hx := reps_strs_eq f3
        subst hx
        obtain ⟨i1, i2⟩ := ixStr_spec hj
        refine ⟨p, zs.map V.str, .str y, j, .str y, rfl, rfl, SqL.of f1, rfl, flat_strsV zs, by rw [List.getElem?_map, i1]; rfl, by simp [eqV], fun m z' hm hz' => ?_, kk _ H2 O2 (e1.trans e2) s2 (.int _)⟩
        rw [List.getElem?_map] at hz'
        obtain ⟨u, hu, rfl⟩ := Option.map_eq_some_iff.mp hz'
        have hne : u ≠ y := fun zz => i2 m hm (by rw [hu, zz])
        simp [eqV, hne]
      | _ => cases hz
    | _ =>
      rw [if_neg (by exact Bool.false_ne_true)] at hk
      exact hk.elim
  · cases h) (fun k x h => by unfold indexChk at h; split at h <;> first | rfl | cases h)
/-- a constant tuple of the module -/
theorem globT {X : Cx} {L : Lx} {y : Str} {ds : List D} (g : GlobOk (zx X L) y (.tup ds)) : ∃ p xs, X.mg y = some (.ref p) ∧ SqT X.K (fun _ => none) p xs ∧ (∀ H O, Reps (zx X L) H O xs ds) ∧ ∀ o, X.K.lookup p = some o → o.dict = none := by
  obtain ⟨u, v, h1, h2, h3, h4⟩ := g
  have r := h3 (fun _ => none) []
  cases r with
  | tup h _ => cases h.1
  | tupK h r =>
    cases h2
    exact ⟨_, _, h1, h, fun H O => r.ext (fun b u e => by have e : Option.none = some u := e; cases e), fun o ho => h4 _ o rfl ho⟩
def gindexD (ds : List D) (b : Ex) : En → Out D := fun ρ => (b.den ρ).bind fun y ρ1 => Out.lift (indexD (.tup ds) y) ρ1
def Ex.gindex (y : Str) (ds : List D) (b : Ex) : Ex := .plain (gindexD ds b) (indexChk (fun k x => match x with | .Name z _ => decide (z = y) && k.gl z | _ => false) b.chk) (Need.app (.gl y (.tup ds)) b.need) (fun {X L A W lev k} c n x h => by
  unfold indexChk at h
  split at h
  · rename_i o m apos yy cpos
    simp only [Bool.and_eq_true, decide_eq_true_eq] at h
    obtain ⟨⟨⟨⟨⟨rfl, h1⟩, h2⟩, h3⟩, h4⟩, h5⟩ := h
    have pa : [yy].all notStar = true := by rw [List.all_cons, h2]; rfl
    split at h4
    · rename_i z zp
      rw [Bool.and_eq_true, decide_eq_true_eq] at h4
      obtain ⟨rfl, hg⟩ := h4
      obtain ⟨g1, g2, g3⟩ := c.glOk hg
      obtain ⟨p, xs, m1, m2, m3, m4⟩ := globT (n.left.gs (z, .tup ds) (List.mem_singleton.mpr rfl))
      refine PE.weak (pe_bm PySem.F.plainAttrs_tuple PySem.F.slot_tuple_index PySem.F.type_tuple_index mt_tup_index (pe_glob (v := .ref p) g1 m1 rfl g2) (pa_cons (b.ok c n.right yy h5) pa_nil (starEach_cons h2)) (base_of h1) (few_of pa (by simp)) (by simp [h3]) (starEach_cons h2) rfl) fun σ H Q ⟨ρ, O, s, q⟩ => ?_
      refine ⟨?_, tS_bind s q fun e ρ2 w H2 O2 e2 s2 r2 hk2 => ?_⟩
      · rcases m2 with (m2 | ⟨o, m2⟩) | ⟨o, its, nn, l1, l2, l3, l4⟩
        · cases m2
        · cases m2
        · exact .inr (.inl ⟨rfl, o, l1, l2, m4 o l1⟩)
      · obtain ⟨z, hz, kk⟩ := post_lift hk2
        cases e with
        | str y =>
          obtain ⟨zs, hs, hz⟩ := Option.bind_eq_some_iff.mp (show (strsOf ds).bind _ = some z from hz)
          obtain ⟨j, hj, rfl⟩ := Option.map_eq_some_iff.mp hz
          have hds := strsOf_eq hs
          subst hds
          cases r2
          have hx := reps_strs_eq (m3 H2 O2)
          subst hx
          obtain ⟨i1, i2⟩ := ixStr_spec hj
          exact ⟨p, zs, y, j, rfl, rfl, SqT.ofK m2 H2, i1, i2, kk _ H2 O2 e2 s2 (.int _)⟩
        | _ => cases hz
    · cases h4
  · cases h) (fun k x h => by unfold indexChk at h; split at h <;> first | rfl | cases h)
end Ev
set_option Elab.async false
set_option maxRecDepth 100000
set_option maxHeartbeats 4000000
/-! EvQ: list(range), tuple[::-1], {}, calls by keywords. -/
namespace Ev
open PySem PySem.Spec PyProof.Rows L2

/-! ### list(range(..)) -/
def rgD (a b : Int) : Option D := if decide (-(2 ^ 62) ≤ a ∧ a < 2 ^ 62 ∧ -(2 ^ 62) ≤ b ∧ b < 2 ^ 62 ∧ (b - a).toNat ≤ 1000000) = true then some (.lst (upFrom a 1 (b - a).toNat)) else none
theorem list_blt : ("list" : Str) ∈ blts := by decide +kernel
theorem reps_rg {Z : Zx} {H : Hp} {O : List Addr} (a b : Int) : Reps Z H O (rgV a b) (upFrom a 1 (b - a).toNat) := by
  unfold rgV upFrom
  generalize (b - a).toNat = n
  have : ∀ l : List Nat, Reps Z H O (l.map fun i => V.int (a + (i : Nat))) (l.map fun (i : Nat) => D.int (a + (i : Nat) * 1)) := fun l => by
    induction l with
    | nil => exact .nil
    | cons x l ih =>
      refine .cons ?_ ih
      show Rep Z H O (V.int (a + (x : Nat))) (D.int (a + (x : Nat) * 1))
      rw [Int.mul_one]
      exact .int _
  exact this _
theorem rgOk_of {a b : Int} (h : -(2 ^ 62) ≤ a ∧ a < 2 ^ 62 ∧ -(2 ^ 62) ≤ b ∧ b < 2 ^ 62 ∧ (b - a).toNat ≤ 1000000) : RgOk a b := by
  obtain ⟨h1, h2, h3, h4, h5⟩ := h
  exact ⟨h1, h2, h3, h4, by first | omega | exact Nat.le_trans h5 (by decide)⟩
/-- a new list is laid: the fresh value's end -/
theorem tN_new {Z : Zx} {A : An} {H H1 : Hp} {O O1 : List Addr} {σ : L2.St} {ρ1 : En} {p : Addr} {vs : List V} {ds : List D} {Q : VK} (s1 : SR Z A H1 O1 σ ρ1) (hp : H1 p = none) (r1 : Reps Z H1 O1 vs ds) (e1 : Ext H O H1 O1)
    (hk : ∀ p xs H' O', Ext H O H' O' → A.H p = none → p ∉ A.O → p ∈ O' → (∀ (j : Nat) (d : D), ρ1[j]? = some (.o d) → σ[j]? ≠ some (some (.ref p))) → H' p = some (.lst xs) → SR Z A H' O' σ ρ1 → Reps Z H' O' xs ds → Q (.ref p) H') : Q (.ref p) (upd H1 p (.lst vs)) := by
  obtain ⟨e2, s2⟩ := s1.grow (xs := vs) hp
  have hpO := s1.fresh hp
  have hA : A.H p = none := by
    cases q : A.H p with
    | none => rfl
    | some u => exact absurd hp (s1.dom p (by rw [q]; exact fun z => nomatch z))
  exact hk p vs _ _ (e1.trans e2) hA (fun z => hpO (s1.sub p z)) List.mem_cons_self (fun j d g1 g2 => by
    obtain ⟨a, q1, ⟨_, _, _, q2, _⟩, _⟩ := s1.own j d g1
    rw [g2] at q1
    cases q1
    exact hpO q2) upd_same s2 (r1.ext e2)
/-- a plain expression whose value is a new list -/
def Fx.of (den : En → Out (List D)) (chk : Ck → Expr → Bool) (need : Need)
    (ok : ∀ {X : Cx} {L : Lx} {A : An} {W : WX} {lev : Nat} {k : Ck}, Cxt X L A W lev k → Has X L lev need → ∀ x, chk k x = true → PE X x (tN (zx X L) A W den))
    (pl : ∀ k x, chk k x = true → plainTest x = true) (nc : ∀ k x, chk k x = true → isComp x = false) : Fx where
  den := den
  chk := chk
  need := need
  ok := ok
  pl := pl
  set := fun {X L A W lev k} c n x h i y py pos hl => set_plainF c (ok c.cx n x h) (nc k x h) i y py pos hl
def rgL (a b : Int) : Option (List D) := if decide (-(2 ^ 62) ≤ a ∧ a < 2 ^ 62 ∧ -(2 ^ 62) ≤ b ∧ b < 2 ^ 62 ∧ (b - a).toNat ≤ 1000000) = true then some (upFrom a 1 (b - a).toNat) else none
def isRange (n : Nat) (k : Ck) : Expr → Option (List Expr)
  | .Call (.Name y _) es [] _ => if (decide (y = "range") && k.gl y && es.all notStar && decide (es.length = n)) = true then some es else none
  | _ => none
def rgChk1 (a : Ex) (nm : Str) (k : Ck) (x : Expr) : Bool := match x with
  | .Call (.Name f _) [.Call (.Name y _) [e] [] _] [] _ => decide (f = nm) && k.gl f && decide (y = "range") && k.gl y && notStar e && a.chk k e
  | _ => false
def rgChk2 (a b : Ex) (nm : Str) (k : Ck) (x : Expr) : Bool := match x with
  | .Call (.Name f _) [.Call (.Name y _) [d, e] [] _] [] _ => decide (f = nm) && k.gl f && decide (y = "range") && k.gl y && notStar d && notStar e && a.chk k d && b.chk k e
  | _ => false
/-- list(range(j)) -/
def Fx.listRg1 (a : Ex) : Fx := .of (fun ρ => (a.den ρ).bind fun d ρ1 => Out.lift (match d with | .int j => rgL 0 j | _ => none) ρ1) (rgChk1 a "list") a.need (fun {X L A W lev k} c n x h => by
  unfold rgChk1 at h
  split at h
  · simp only [Bool.and_eq_true, decide_eq_true_eq] at h
    obtain ⟨⟨⟨⟨⟨rfl, h1⟩, rfl⟩, h2⟩, h3⟩, h4⟩ := h
    obtain ⟨g1, _, _⟩ := c.glOk h1
    obtain ⟨g2, _, _⟩ := c.glOk h2
    refine PE.weak (pe_listRg c.calm g1 (c.blt _ list_blt) (prg_1 g2 (c.blt _ range_blt) (a.ok c n _ h4) (starEach_cons h3)) (starEach_cons rfl)) fun σ H Q ⟨ρ, O, s, q⟩ => ?_
    refine tS_bind s q fun d ρ1 v H1 O1 e1 s1 r1 hk => ?_
    obtain ⟨ds, hds, hk⟩ := post_lift hk
    split at hds
    · unfold rgL at hds
      split at hds
      · rename_i hz
        cases hds
        cases r1
        exact ⟨_, rfl, rgOk_of (of_decide_eq_true hz), fun p hp => tN_new s1 hp (reps_rg _ _) e1 hk⟩
      · cases hds
    · cases hds
  · cases h) (fun k x h => by unfold rgChk1 at h; split at h <;> first | rfl | cases h) (fun k x h => by unfold rgChk1 at h; split at h <;> first | rfl | cases h)
/-- list(range(i, j)) -/
def Fx.listRg2 (a b : Ex) : Fx := .of (fun ρ => (a.den ρ).bind fun d ρ1 => (b.den ρ1).bind fun e ρ2 => Out.lift (match d, e with | .int i, .int j => rgL i j | _, _ => none) ρ2) (rgChk2 a b "list") (a.need.app b.need) (fun {X L A W lev k} c n x h => by
  unfold rgChk2 at h
  split at h
  · simp only [Bool.and_eq_true, decide_eq_true_eq] at h
    obtain ⟨⟨⟨⟨⟨⟨⟨rfl, h1⟩, rfl⟩, h2⟩, h3⟩, h4⟩, h5⟩, h6⟩ := h
    obtain ⟨g1, _, _⟩ := c.glOk h1
    obtain ⟨g2, _, _⟩ := c.glOk h2
    refine PE.weak (pe_listRg c.calm g1 (c.blt _ list_blt) (prg_2 g2 (c.blt _ range_blt) (a.ok c n.left _ h5) (b.ok c n.right _ h6) (starEach_cons h3) (starEach_cons h4) (noStars (by rw [List.all_cons, h4]; rfl))) (starEach_cons rfl)) fun σ H Q ⟨ρ, O, s, q⟩ => ?_
    refine tS_bind s q fun d ρ1 v H1 O1 e1 s1 r1 hk => ?_
    refine tS_bind s1 hk fun e ρ2 w H2 O2 e2 s2 r2 hk2 => ?_
    obtain ⟨ds, hds, kk⟩ := post_lift hk2
    split at hds
    · unfold rgL at hds
      split at hds
      · rename_i hz
        cases hds
        cases r1
        cases r2
        exact ⟨_, _, rfl, rfl, rgOk_of (of_decide_eq_true hz), fun p hp => tN_new s2 hp (reps_rg _ _) (e1.trans e2) kk⟩
      · cases hds
    · cases hds
  · cases h) (fun k x h => by unfold rgChk2 at h; split at h <;> first | rfl | cases h) (fun k x h => by unfold rgChk2 at h; split at h <;> first | rfl | cases h)
/-! ### {} -/
def Ex.dict0 : Ex := .plain (dCon (.dic [])) (fun _ x => match x with | .Dict [] [] _ => true | _ => false) .nil (fun {X L A W lev k} c n x h => by
  split at h
  · exact PE.weak pe_dnewK fun σ H Q ⟨ρ, O, s, q⟩ p hp => q _ _ O (Ext.upd hp) (s.same (same_new hp)) (.dic0 ⟨upd_same, s.fresh hp⟩)
  · cases h) (fun k x h => by split at h <;> first | rfl | cases h)
/-! ### tuple[::-1] -/
theorem adjust_rev (n : Nat) : Builtin.Slice.sliceAdjust none none (-1) (n : Int) = ((n : Int) - 1, -1) := by
  first | rfl | (unfold Builtin.Slice.sliceAdjust; simp)
theorem places_rev (n : Nat) : Builtin.Slice.slicePlaces ((n : Int) - 1) (-1) (-1) = n := by
  unfold Builtin.Slice.slicePlaces
  rw [if_neg (by decide)]
  by_cases h : (n : Int) - 1 > -1
  · rw [if_pos h]
    have e : (n : Int) - 1 - -1 - 1 = (n : Int) - 1 := by omega
    rw [e, show (-(-1 : Int)) = 1 by decide, Int.ediv_one]
    omega
  · rw [if_neg h]
    omega
theorem fm_congr {α β : Type} {f g : α → Option β} : ∀ {l : List α}, (∀ m ∈ l, f m = g m) → l.filterMap f = l.filterMap g
  | [], _ => rfl
  | a :: l, h => by
    rw [List.filterMap_cons, List.filterMap_cons, h a List.mem_cons_self, fm_congr fun m hm => h m (List.mem_cons_of_mem _ hm)]
theorem pick_rev (l : List Value) : ((List.range l.length).filterMap fun (m : Nat) => l.toArray[(((l.length : Int) - 1) + (m : Int) * (-1)).toNat]?) = l.reverse := by
  have e : ∀ m ∈ List.range l.length, l.toArray[(((l.length : Int) - 1) + (m : Int) * (-1)).toNat]? = l.reverse[m]? := fun m hm => by
    have hlt : m < l.length := List.mem_range.mp hm
    rw [List.getElem?_reverse hlt]
    have e2 : (((l.length : Int) - 1) + (m : Int) * (-1)).toNat = l.length - 1 - m := by omega
    rw [e2]
    simp
  have q := fm_congr e
  rw [q]
  have all : ∀ r : List Value, ((List.range r.length).filterMap fun m => r[m]?) = r := fun r => by
    induction r with
    | nil => rfl
    | cons a r ih =>
      rw [List.length_cons, List.range_succ_eq_map, List.filterMap_cons]
      simp only [List.getElem?_cons_zero, List.filterMap_map]
      congr 1
  have := all l.reverse
  rw [List.length_reverse] at this
  exact this
section
variable {prog : Program} {w : World} {A : Around} {E : Value → Shared → Prop} {s : Shared}
theorem getItem_tuple_rev {t sl : Addr} {its : List Value} {vl vu vs : Value} {Q : Value → Shared → Prop} (ht : IsTup s.heap t its.toArray) (hs : s.heap.IsSliceOf sl vl vu vs) (pl : IsPart vl none) (pu : IsPart vu none) (ps : IsPart vs (some (-1)))
    (h : Q (.ref s.heap.objs.size) { s with heap := s.heap.push { cls := .type "tuple", data := .seq its.reverse.toArray } }) (hsz : its.length ≤ sizeLine) : wpAny (model prog w) A (getItem (.ref t) (.ref sl)) Q E s := by
  have hfit : sizeOk (.seq its.reverse.toArray) := by
    show its.reverse.toArray.size ≤ sizeLine
    rw [List.size_toArray, List.length_reverse]
    exact hsz
  obtain ⟨os, hos, hcs, hds⟩ := id hs
  have hT : s.TypeIs (.ref sl) "slice" := ⟨os, hos, hcs⟩
  unfold getItem
  try with_reducible refine wpAny_holding ?_
  first | refine wpAny_bind (wpAny_pure ?_) | skip
  refine wpAny_bind (wpAny_sequenceKey ht.typeIs (by decide) ?_)
  refine wpAny_bind (wpAny_callSpecial?_slot (name := Str.ofString "__getitem__") ht.typeIs PyProof.Rows.slot_tuple_getitem
    (wpAny_call_entry PyProof.Rows.slot_tuple_getitem ht.typeIs entry_tuple_getitem ?_ (args_tuple_getitem _ _)))
  show wpAny _ _ (Builtin.Tuple.tupleItemsOf (.ref t) >>= _) _ _ s
  refine wpAny_bind (tupleItemsOf_ ht ?_)
  refine wpAny_bind (wpAny_typeOf hT ?_)
  rw [if_pos (by decide)]
  have app : wpAny (model prog w) A.in1 (Builtin.Slice.sliceApplied (.ref sl) (pure ((its.toArray.size : Nat) : Int))) (fun r s' => r = (((its.length : Int) - 1), -1, its.length) ∧ s' = s) (fun e s' => E e s') s := by
    unfold Builtin.Slice.sliceApplied Builtin.Slice.sliceFields
    refine wpAny_bind (wpAny_bind (wpAny_field hos hds (x := vl) rfl (wpAny_bind (wpAny_field hos hds (x := vu) rfl (wpAny_bind (wpAny_field hos hds (x := vs) rfl (wpAny_pure ?_)))))))
    refine wpAny_bind (HT.slicePart_ ps ?_)
    show wpAny _ _ (if ((-1 : Int) == 0) = true then _ else _) _ _ s
    rw [if_neg (by decide)]
    refine wpAny_bind (HT.slicePart_ pl (wpAny_bind (HT.slicePart_ pu (wpAny_bind (wpAny_pure ?_)))))
    show wpAny _ _ (match Builtin.Slice.sliceAdjust none none (-1) ((its.toArray.size : Nat) : Int) with | (lo, hi) => pure (lo, (-1 : Int), Builtin.Slice.slicePlaces lo hi (-1))) _ _ s
    rw [List.size_toArray, adjust_rev]
    show wpAny _ _ (pure (((its.length : Int) - 1), (-1 : Int), Builtin.Slice.slicePlaces ((its.length : Int) - 1) (-1) (-1))) _ _ s
    rw [places_rev]
    exact wpAny_pure ⟨rfl, rfl⟩
  refine wpAny_bind (wpAny_mono app (fun r s' ⟨e1, e2⟩ => ?_) fun _ _ z => z)
  subst e1 e2
  have hno : ¬ (((its.length : Int) - 1 == 0 && (-1 : Int) == 1 && its.length == its.toArray.size) = true) := by
    intro q
    rw [Bool.and_eq_true, Bool.and_eq_true] at q
    exact absurd (eq_of_beq q.1.2) (by decide)
  show wpAny _ _ (if ((its.length : Int) - 1 == 0 && (-1 : Int) == 1 && its.length == its.toArray.size) = true then _ else _) _ _ _
  rw [if_neg hno, pick_rev]
  first
    | exact wpAny_bind (m := Builtin.Tuple.tupleExact _) (wpAny_newObj_type (wpAny_pure ⟨_, rfl, wpAny_pure h⟩) hfit)
    | exact wpAny_bind (m := Builtin.Tuple.tupleExact _) (wpAny_newObj_type (wpAny_bind (wpAny_pure (wpAny_pure ⟨_, rfl, wpAny_pure h⟩))) hfit)
    | exact wpAny_bind (wpAny_bind (m := Builtin.Tuple.tupleExact _) (wpAny_newObj_type (wpAny_pure (wpAny_pure ⟨_, rfl, wpAny_pure h⟩)) hfit))
    | exact wpAny_bind (wpAny_bind (m := Builtin.Tuple.tupleExact _) (wpAny_newObj_type (wpAny_pure ⟨_, rfl, wpAny_pure h⟩) hfit))
end
def tRevT (K : PySem.W.Frag) (te : TE) : TE := fun σ H Q => te σ H fun x H1 => ∃ a xs, x = .ref a ∧ SqT K H1 a xs ∧ ∀ p, H1 p = none → Q (.ref p) (upd H1 p (.tup xs.reverse))
theorem pe_revT {X : Cx} {e : Expr} {te : TE} {k : Nat} {p1 p2 p3 pos : Pos} (he : PE X e te) : PE X (.Subscript e (.Slice none none (some (.UnaryOp .USub (.Constant (.int 1) k p1) p2)) p3) pos) (tRevT X.K te) := by
  refine ⟨fun pins s σ H Q I h => Subscript_ (thn (he.run pins s σ H _ I h) fun v s1 ⟨x, H1, I1, r1, a, xs, ex, hx, q⟩ => ?_)⟩
  subst ex
  cases r1
  have step : PO X (some (.UnaryOp .USub (.Constant (.int 1) k p1) p2)) (tPart (tUn (rU fun i => .int (-i)) (tC (.int 1)))) := po_some (pe_un un_neg pe_int)
  refine wpAny_Slice (thn (po_none.run pins s1 σ H1 (fun o H2 => o = none ∧ H2 = H1) I1 ⟨rfl, rfl⟩) fun vl s2 ⟨l, H2, I2, pl, el, e2⟩ => ?_)
  subst el e2
  refine thn (po_none.run pins s2 σ _ (fun o H3 => o = none ∧ H3 = _) I2 ⟨rfl, rfl⟩) fun vu s3 ⟨u, H3, I3, pu, eu, e3⟩ => ?_
  subst eu e3
  refine thn (step.run pins s3 σ _ (fun o H4 => o = some (-1) ∧ H4 = _) I3 ⟨1, rfl, -1, rfl, rfl, rfl⟩) fun vs s4 ⟨o, H4, I4, ps, eo, e4⟩ => ?_
  subst eo e4
  have I5 : Inv X pins σ _ { s4 with heap := s4.heap.push { cls := .type "slice", data := .fields #[vl, vu, vs] } } := I4.kept (t' := s4.toks) fun b ob q => Heap.get?_push_of_some _ q
  obtain ⟨its, r, ht, hz⟩ := I5.tuple hx
  have hlen := r.length
  show wpAny (model X.prog X.w) X.A (subscriptTail e (.Slice none none (some (.UnaryOp .USub (.Constant (.int 1) k p1) p2)) p3) (.ref a) (.ref s4.heap.objs.size)) (EP X pins σ Q) X.xe { s4 with heap := s4.heap.push { cls := .type "slice", data := .fields #[vl, vu, vs] } }
  refine tail_any (ops := [.ref a, .ref s4.heap.objs.size]) ht.typeIs (PyProof.Rows.slot_tuple_getitem.lookup) ?_ (by with_unfolding_all rfl)
  refine getItem_tuple_rev ht (Heap.IsSliceOf.new _ vl vu vs) pl pu ps ?_ (by rw [← hlen]; exact hz)
  refine ⟨.ref _, _, I5.laid (t' := s4.toks) (o := .tup xs.reverse) (fun b ob q => Heap.get?_push_of_some _ q) (Nat.le_refl _) ?_, rfl, q _ (I5.hok.fresh (Nat.le_refl _))⟩
  exact ⟨by rw [List.length_reverse]; exact hz, _, r.reverse, IsTup.new _ _⟩
def revTD : D → Option D
  | .tup xs => some (.tup xs.reverse)
  | _ => none
def Ex.revT (a : Ex) : Ex := .plain (fun ρ => (a.den ρ).bind fun x ρ1 => Out.lift (revTD x) ρ1)
  (fun k x => match x with | .Subscript x (.Slice none none (some (.UnaryOp .USub (.Constant (.int 1) _ _) _)) _) _ => a.chk k x | _ => false) a.need (fun {X L A W lev k} c n x h => by
  split at h
  · refine PE.weak (pe_revT (a.ok c n _ h)) fun σ H Q ⟨ρ, O, s, q⟩ => ?_
    refine tS_bind s q fun d ρ1 v H1 O1 e1 s1 r1 hk => ?_
    obtain ⟨z, hz, hk⟩ := post_lift hk
    unfold revTD at hz
    split at hz
    · cases hz
      obtain ⟨p, xs, rfl, g1, r2⟩ := r1.tupSq
      exact ⟨p, xs, rfl, g1, fun l hl => hk _ _ O1 (e1.trans (Ext.upd hl)) (s1.same (same_new hl)) (Rep.newT s1.trk hl r2.reverse)⟩
    · cases hz
  · cases h) (fun k x h => by split at h <;> first | rfl | cases h)
/-! ### f(a=.., b=..) -/
structure Kx where
  den : En → Out (List D)
  ks : List Str
  chk : Ck → List Keyword → Bool
  need : Need
  ok : ∀ {X : Cx} {L : Lx} {A : An} {W : WX} {lev : Nat} {k : Ck}, Cxt X L A W lev k → Has X L lev need → ∀ xs, chk k xs = true → PK X xs (tA (zx X L) A W den)
  sm : ∀ k xs, chk k xs = true → ∀ (pos : Pos) (env : PySem.Env), (backToKw pos (keywordEach xs env)).all (·.1.isSome) = true ∧ (backToKw pos (keywordEach xs env)).filterMap (·.1) = ks ∧ (backToKw pos (keywordEach xs env)).any (·.1.isNone) = false
theorem PK.weak {X : Cx} {es : List Keyword} {t t' : TA} (h : PK X es t) (w : ∀ σ H Q, t' σ H Q → t σ H Q) : PK X es t' := ⟨fun pos pins s σ H Q I q => h.run pos pins s σ H Q I (w σ H Q q)⟩
def Kx.nil : Kx where
  den := fun ρ => .ok [] ρ
  ks := []
  chk := fun _ xs => xs.isEmpty
  need := .nil
  ok := fun {X L A W lev k} c n xs h => by
    cases xs with
    | nil => exact PK.weak pk_nil fun σ H Q ⟨ρ, O, s, q⟩ => q [] H O (Ext.refl H O) s .nil
    | cons _ _ => cases h
  sm := fun k xs h pos env => by
    cases xs with
    | nil => exact ⟨rfl, rfl, rfl⟩
    | cons _ _ => cases h
def Kx.cons (y : Str) (e : Ex) (r : Kx) : Kx where
  den := fun ρ => (e.den ρ).bind fun d ρ1 => (r.den ρ1).bind fun ds ρ2 => .ok (d :: ds) ρ2
  ks := y :: r.ks
  chk := fun k xs => match xs with | ⟨some z, x, _⟩ :: xs => decide (z = y) && e.chk k x && r.chk k xs | _ => false
  need := e.need.app r.need
  ok := fun {X L A W lev k} c n xs h => by
    split at h
    · simp only [Bool.and_eq_true, decide_eq_true_eq] at h
      obtain ⟨⟨rfl, h1⟩, h2⟩ := h
      refine PK.weak (pk_cons (e.ok c n.left _ h1) (r.ok c n.right _ h2)) fun σ H Q ⟨ρ, O, s, q⟩ => ?_
      refine tS_bind s q fun d ρ1 v H1 O1 e1 s1 r1 hk => ?_
      refine tA_bind s1 hk fun ds ρ2 vs H2 O2 e2 s2 r2 hk2 => ?_
      exact hk2 (v :: vs) H2 O2 (e1.trans e2) s2 (.cons (r1.ext e2) r2)
    · cases h
  sm := fun k xs h pos env => by
    split at h
    · rename_i z x p xs
      simp only [Bool.and_eq_true, decide_eq_true_eq] at h
      obtain ⟨⟨rfl, h1⟩, h2⟩ := h
      obtain ⟨a, b, c⟩ := r.sm k xs h2 pos env
      refine ⟨?_, ?_, ?_⟩
      · show (true && (backToKw pos (keywordEach xs env)).all (·.1.isSome)) = true
        rw [a]; rfl
      · show z :: (backToKw pos (keywordEach xs env)).filterMap (·.1) = z :: r.ks
        rw [b]
      · show (false || (backToKw pos (keywordEach xs env)).any (·.1.isNone)) = false
        rw [c]; rfl
    · cases h
def kwD (F : FSem) (pm : List Nat) (kx : Kx) : En → Out D := fun ρ => (kx.den ρ).bind fun ds ρ1 => if ds.length = kx.ks.length ∧ pm.length = F.ar ∧ pm.all (fun i => decide (i < ds.length)) = true then callK F [] (pm.map fun i => ds.getD i .non) ρ1 else .no
theorem reps_pm {Z : Zx} {H : Hp} {O : List Addr} {vs : List V} {ds : List D} (r : Reps Z H O vs ds) : ∀ {pm : List Nat}, pm.all (fun i => decide (i < ds.length)) = true → Reps Z H O (pm.map fun i => vs.getD i .non) (pm.map fun i => ds.getD i .non)
  | [], _ => .nil
  | i :: pm, h => by
    rw [List.all_cons, Bool.and_eq_true, decide_eq_true_eq] at h
    have hi : ds[i]? = some ds[i] := List.getElem?_eq_getElem h.1
    obtain ⟨v, hv, rv⟩ := r.getD hi
    rw [List.map_cons, List.map_cons]
    refine .cons ?_ (reps_pm r h.2)
    rw [List.getD_eq_getElem?_getD, List.getD_eq_getElem?_getD, hv, hi]
    exact rv
theorem vals_pm {vs : List V} {us : List Value} (r : Vals vs us) : ∀ pm : List Nat, Vals (pm.map fun i => vs.getD i .non) (pm.map fun i => us.getD i .none)
  | [] => .nil
  | i :: pm => by
    rw [List.map_cons, List.map_cons]
    refine .cons ?_ (vals_pm r pm)
    rw [List.getD_eq_getElem?_getD, List.getD_eq_getElem?_getD]
    cases hv : vs[i]? with
    | none =>
      have : us[i]? = none := by
        rw [List.getElem?_eq_none_iff] at hv ⊢
        rw [← r.length]; exact hv
      rw [this]
      exact rfl
    | some v =>
      obtain ⟨u, hu, ru⟩ := r.get hv
      rw [hu]
      exact ru
def Ex.callkw (x : Str) (F : FSem) (pm : List Nat) (kx : Kx) : Ex := .plain (kwD F pm kx) (fun k e => match e with | .Call (.Name y _) [] kws _ => decide (y = x) && k.gl y && ownFits F [] && kx.chk k kws | _ => false) (Need.app ⟨[], [], [(x, F, kx.ks, pm)], [], []⟩ kx.need) (fun {X L A W lev k} c n e h => by
  split at h
  · rename_i y p kws pos
    simp only [Bool.and_eq_true, decide_eq_true_eq] at h
    obtain ⟨⟨⟨rfl, g1⟩, g2⟩, g3⟩ := h
    obtain ⟨f, fd, ps, h1, h2, h3, h4, h5⟩ := n.left.kw (y, F, kx.ks, pm) (List.mem_singleton.mpr rfl)
    obtain ⟨c1, c2, c3⟩ := c.glOk g1
    obtain ⟨m1, m2, m3⟩ := kx.sm k kws g3 pos X.env
    refine ⟨fun pins s σ H Q I q => ?_⟩
    refine wpAny_Call_Name_kw (ld_glob I c1 h1 ?_ c2)
    refine PySem.W.callWith_KW0 (h₀ := X.base) (first := []) I.ok.mod.kin h2 m1 ?_ (by rw [m3]; rfl)
    obtain ⟨ρ, O, sr, q⟩ := q
    have hA : tA (zx X L) A W kx.den σ H (fun vs H1 => vs.length = kx.ks.length ∧ spOf (zx X L) F (pm.map fun i => vs.getD i .non) H1 Q (WE W σ)) := by
      refine tA_bind sr q fun ds ρ1 vs H1 O1 e1 s1 r1 hk => ?_
      split at hk
      · rename_i hc
        obtain ⟨hl, hp, hall⟩ := hc
        refine ⟨by rw [r1.length]; exact hl, ?_⟩
        have rr := reps_pm r1 hall
        refine call_sp (own := []) s1 g2 (by rw [List.length_map]; exact hp) ⟨rr.length, fun i v d a b => ⟨fun j hj => (nomatch hj), fun _ => ?_⟩⟩ hk fun d ρ' hd => ⟨fun es hfr hes p xs H' e' hp np hp' s' s2 rs => ?_, fun hfr v H' e' s' rv => hd v H' O1 (e1.trans e') s' rv⟩
        · obtain ⟨d', z1, z2⟩ := rr.get a
          rw [b] at z1
          cases z1
          exact z2
        · subst hes
          exact hd _ H' O1 (e1.trans e') s' (.lst ⟨hp', np⟩ (rs.ext Ext.pop))
      · exact hk.elim
    refine thn ((kx.ok c n.right kws g3).run pos pins s σ H _ I hA) fun us s1 ⟨vs, H1, I1, r, hl, q1⟩ => ⟨I1.kIn, ?_⟩
    rw [m2]
    show wpAny (model X.prog X.w) X.A (PySem.call (Value.ref f) [] (kx.ks.zip us)) _ _ _
    have rv := vals_pm r pm
    refine wpAny_call (codeAny_mono (h5.run X.A c.gd c.room X.stack s1 H1 ⟨[], kx.ks.zip us⟩ _ _ Q (WE W σ) I1.env0 (h4 s1 us I1.kIn (by rw [← r.length]; exact hl)) rv q1) fun res s' hq => ?_)
    match res, hq with
    | .error e, hq => exact passAt c.tk σ pins H1 s1 e s' I1 hq
    | .ok (.ret u), hq => exact I1.after hq
  · cases h) (fun k x h => by split at h <;> first | rfl | cases h)

/-! ### how plain parameters are bound -/
theorem zip_lookup : ∀ {ps : List Str} {us : List Value}, ps.Nodup → us.length = ps.length → (ps.filterMap fun n => ((ps.zip us).lookup n).map (n, ·)) = ps.zip us
  | [], _, _, _ => by simp
  | p :: ps, [], _, h => by cases h
  | p :: ps, u :: us, nd, h => by
    rw [List.nodup_cons] at nd
    rw [List.zip_cons_cons, List.filterMap_cons]
    have e : List.lookup p ((p, u) :: ps.zip us) = some u := by simp [List.lookup]
    rw [e]
    show (p, u) :: _ = _
    congr 1
    have ih := zip_lookup (ps := ps) (us := us) nd.2 (by simpa using h)
    refine Eq.trans (fm_congr fun n hn => ?_) ih
    have ne : (n == p) = false := by simpa using fun z => nd.1 (by rw [← z]; exact hn)
    simp only [List.lookup, ne]
theorem zip_has : ∀ {ps : List Str} {us : List Value} {n : Str}, us.length = ps.length → n ∈ ps → ((ps.zip us).lookup n).isNone = false
  | [], _, _, _, h => by cases h
  | p :: ps, [], _, h, _ => by cases h
  | p :: ps, u :: us, n, h, hn => by
    rw [List.zip_cons_cons]
    by_cases e : (n == p) = true
    · simp only [List.lookup, e]; rfl
    · have e : (n == p) = false := by simpa using e
      simp only [List.lookup, e]
      refine zip_has (by simpa using h) ?_
      rcases List.mem_cons.mp hn with z | z
      · rw [z] at e; simp at e
      · exact z
theorem bind_plain {fd : FuncData} {us : List Value} {as : List Arg} {ps : List Str} (hp : fd.params = ⟨[], as, none, [], [], none, []⟩) (hd : fd.defaults = .none) (hn : as.map (·.arg) = ps) (nd : ps.Nodup) (hl : us.length = ps.length) :
    bindArgs fd ⟨us, []⟩ = pure (ps.zip us) := by
  unfold bindArgs
  have miss : (ps.filter fun n => ((ps.zip us).lookup n).isNone) = [] := by
    rw [List.filter_eq_nil_iff]
    intro n h
    rw [zip_has hl h]
    exact Bool.false_ne_true
  have sq : seqItems? Value.none = (pure none : Sem (Option (Array Value))) := rfl
  simp only [hp, hd, hn, sq, List.map_nil, List.nil_append, pure_bind, Option.getD_none, Array.toList_empty, List.length_nil, hl, Nat.lt_irrefl, gt_iff_lt, false_and, if_false, List.drop_nil, Nat.sub_zero, List.take_length, miss, List.isEmpty_nil, Bool.not_true, List.zip_nil_right, List.forIn_nil, List.append_nil, zip_lookup nd hl, Bool.false_eq_true, decide_false, Bool.false_and, Nat.zero_sub]
end Ev
set_option Elab.async false
set_option maxRecDepth 100000
set_option maxHeartbeats 4000000
/-! EvR: made functions that capture nothing: made, handed on, called. -/
namespace Ev
open PySem PySem.Spec PyProof.Rows L2

section
variable {X : Cx} {pins : List (Addr × Obj)} {σ : L2.St} {H : Hp} {s : Shared}
/-- a function object just laid is known -/
theorem inv_lam {J : LamI} {cl : List (Str × Addr)} {c : Addr} {t' : Nat} {doc pm ctv : Value} (I : Inv X pins σ H s) :
    Inv X pins σ (upd H s.heap.objs.size (FnObj J cl c s.heap.objs.size)) { s with heap := s.heap.push { cls := .type "function", data := .func (J.fd cl c doc pm ctv) }, toks := t' } := by
  refine I.laid (a := s.heap.objs.size) (fun b u e => Heap.get?_push_of_some _ e) (Nat.le_refl _) ?_
  have e : (s.heap.push ({ cls := .type "function", data := .func (J.fd cl c doc pm ctv) } : Obj)).get? s.heap.objs.size = some ({ cls := .type "function", data := .func (J.fd cl c doc pm ctv) } : Obj) := Heap.get?_push_size _ rfl
  exact ⟨⟨_, _, doc, pm, ctv, e⟩, ⟨_, e⟩, fun h1 h2 ⟨od, sl, d, p, t, z⟩ st => ⟨od, sl, d, p, t, st _ z⟩⟩
theorem fnObj_ne {J : LamI} {cl : List (Str × Addr)} {c f : Addr} (ps : Array Value) : FnObj J cl c f ≠ .tbl ps := fun z => by unfold FnObj at z; cases z
/-- what a made function leaves: the object, its code object; the tables may have grown -/
structure Made (T : List NdefX.NTab) (J : LamI) (cl : List (Str × Addr)) (H H1 : Hp) (f c : Addr) : Prop where
  ext : LamX.ExtN H H1
  dom : ∀ b, H1 b = none → H b = none
  tab : NdefX.TabsN T H1
  new : H f = none
  fn : H1 f = some (FnObj J cl c f)
  cd : H1 c = some (LamX.CodeO c J.qual)
theorem lam_made {T : List NdefX.NTab} {nm : Nat → Nat → Str} {c P : Addr} {params : Arguments} {body : Expr} {scope : Scope} {pos : Pos} {E : Value → Shared → Prop} {Q : Value → Shared → Prop} {fr : List Str} (I : Inv X pins σ H s) (TB : LamX.TabB X.base X.mg c P) (hcode : X.env.code = .ref c)
    (hm : (P, nm) ∈ T) (hn : nm pos.line pos.col = X.env.qual ++ "<lambda>") (hu : ∀ p ∈ T, p.1 = P → p.2 = nm) (hT : NdefX.TabsN T H) (hdef : defaultsOf params X.env = ([], [])) (hfree : ∀ y ∈ scope.names, y.2 = .free → ∃ c, X.env.cells.lookup y.1 = some c)
    (h : ∀ (f c' : Addr) (H1 : Hp) (s' : Shared), Inv X pins σ H1 s' → Made T ⟨"<lambda>", X.env.qual ++ "<lambda>", params, .expr body, scope, fr⟩ (cloFrom X.env.cells scope.names []) H H1 f c' → Q (.ref f) s') :
    wpAny (model X.prog X.w) X.A (eval (.Lambda params body scope pos) X.env) Q E s := by
  obtain ⟨ps, hP, tri, kn⟩ := (show NdefX.TabN H P nm from hT _ hm)
  have bP : s.heap.BuiltinsAt X.mg P := TB.bm.keeps I.bk
  have eP : s.heap.get? P = some { cls := .none, data := .fields ps } := I.hok P _ hP
  refine PySem.W.kla_eval hdef ?_
  cases hc : codeAmong pos ps.toList with
  | some cv =>
    obtain ⟨c', rfl, hco⟩ := kn pos cv hc
    rw [hn] at hco
    refine PySem.W.kla_makeFunctionHit (mg := X.mg) (c := c) (P := P) (ps := ps) (closure_ok hfree) I.ok.glob (I.mod.glob.keeps I.bk) hcode (TB.code.keeps I.bk) eP tri hc bP fun ctv h' tk hx _ => ?_
    have I1 : Inv X pins σ H { s with heap := h', toks := tk } := I.kept hx
    have nF : H h'.objs.size = none := I1.hok.fresh (Nat.le_refl _)
    have I2 := inv_lam (J := ⟨"<lambda>", X.env.qual ++ "<lambda>", params, .expr body, scope, fr⟩) (cl := cloFrom X.env.cells scope.names []) (c := c') (t' := tk) (doc := .none) (pm := (X.mg "__name__").getD .none) (ctv := ctv) I1
    have st : ∀ b o, H b = some o → upd H h'.objs.size (FnObj ⟨"<lambda>", X.env.qual ++ "<lambda>", params, .expr body, scope, fr⟩ (cloFrom X.env.cells scope.names []) c' h'.objs.size) b = some o := fun b o e => (upd_ne (ne_of_none e nF)).trans e
    exact h h'.objs.size c' _ _ I2 ⟨fun b o e _ => st b o e, fun b e => NdefX.upd_none e, hT.ext st, nF, upd_same, st _ _ hco⟩
  | none =>
    refine PySem.W.kla_makeFunction (mg := X.mg) (c := c) (P := P) (ps := ps) (closure_ok hfree) I.ok.glob (I.mod.glob.keeps I.bk) hcode (TB.code.keeps I.bk) eP tri hc TB.gP bP fun c' ctv h' tk hx hge hlt hrec htb => ?_
    obtain ⟨c2, oc, vs, t, e2, hoc, hd, hv⟩ := hrec
    cases e2
    have nC : H c' = none := I.hok.fresh hge
    have I1 := LamX.inv_table (t' := tk) (more := #[rawInt pos.line, rawInt pos.col, .ref c']) (h' := h') I hP (fun b o hb e => hx b o hb e) htb hge ⟨oc, vs, t, hoc, hd, hv⟩
    have nF := I1.hok.fresh (Nat.le_refl _)
    have I2 := inv_lam (J := ⟨"<lambda>", X.env.qual ++ "<lambda>", params, .expr body, scope, fr⟩) (cl := cloFrom X.env.cells scope.names []) (c := c') (t' := tk) (doc := .none) (pm := (X.mg "__name__").getD .none) (ctv := ctv) I1
    generalize hHt : upd (upd H P (.tbl (ps ++ #[rawInt pos.line, rawInt pos.col, .ref c']))) c' (LamX.CodeO c' (X.env.qual ++ "<lambda>")) = Ht at I1 I2 nF
    have exT : LamX.ExtN H Ht := fun b o e n => by
      have nb : b ≠ P := fun z => n ps (Option.some.inj (e.symm.trans (by rw [z]; exact hP)))
      rw [← hHt, upd_ne (ne_of_none e nC), upd_ne nb]
      exact e
    have atP : Ht P = some (.tbl (ps ++ #[rawInt pos.line, rawInt pos.col, .ref c'])) := by rw [← hHt, upd_ne (ne_of_none hP nC), upd_same]
    have atC : Ht c' = some (LamX.CodeO c' (X.env.qual ++ "<lambda>")) := by rw [← hHt, upd_same]
    have lst : (ps ++ #[rawInt pos.line, rawInt pos.col, .ref c']).toList = ps.toList ++ [rawInt pos.line, rawInt pos.col, .ref c'] := by simp
    have tabs : NdefX.TabsN T Ht := fun p hp => by
      by_cases hb : p.1 = P
      · have e2 := hu p hp hb
        show NdefX.TabN Ht p.1 p.2
        rw [hb, e2]
        refine ⟨_, atP, by rw [lst]; exact PySem.TriplesOk_snoc _ _ _ _ tri, fun p' cv hcv => ?_⟩
        rw [lst] at hcv
        rcases NdefX.among_app2 _ tri hcv with z | ⟨z, z1, z2⟩
        · obtain ⟨c0, q1, q2⟩ := kn p' cv z
          exact ⟨c0, q1, exT _ _ q2 LamX.codeO_ne⟩
        · exact ⟨c', z, by rw [← z1, ← z2, hn]; exact atC⟩
      · obtain ⟨ps', a1, a2, a3⟩ := hT p hp
        refine ⟨ps', by rw [← hHt, upd_ne (ne_of_none a1 nC), upd_ne hb]; exact a1, a2, fun p' cv hcv => ?_⟩
        obtain ⟨c0, q1, q2⟩ := a3 p' cv hcv
        exact ⟨c0, q1, exT _ _ q2 LamX.codeO_ne⟩
    have st : ∀ b o, Ht b = some o → upd Ht h'.objs.size (FnObj ⟨"<lambda>", X.env.qual ++ "<lambda>", params, .expr body, scope, fr⟩ (cloFrom X.env.cells scope.names []) c' h'.objs.size) b = some o := fun b o e => (upd_ne (ne_of_none e nF)).trans e
    refine h h'.objs.size c' _ _ I2 ⟨fun b o e n => st b o (exT b o e n), fun b e => ?_, tabs.ext st, I.hok.fresh (Nat.le_trans hge (Nat.le_of_lt hlt)), upd_same, st _ _ atC⟩
    have z := NdefX.upd_none e
    rw [← hHt] at z
    exact NdefX.upd_none (NdefX.upd_none z)
end
section
variable {Z : Zx} {A : An} {H H1 : Hp} {O : List Addr} {σ : L2.St} {ρ : En} {J : LamI} {cl : List (Str × Addr)} {f c : Addr}
theorem SR.made (s : SR Z A H O σ ρ) (m : Made Z.T J cl H H1 f c) : Ext H O H1 O ∧ SR Z A H1 O σ ρ := by
  have ex : Ext H O H1 O := fun b u h n t => ⟨m.ext b u h t, n⟩
  refine ⟨ex, ⟨s.len, fun i d h => ?_, fun i d h => ?_, s.sep, m.tab, fun b u h1 h2 h3 => m.ext b u (s.anc b u h1 h2 h3) h3, fun b h z => s.dom b h (m.dom b z), s.sub, fun b hb => ?_, s.io⟩⟩
  · obtain ⟨v, h1, h2⟩ := s.val i d h
    exact ⟨v, h1, h2.ext ex⟩
  · obtain ⟨a, h1, ⟨xs, ds, e1, e2, e3, e4⟩, h3⟩ := s.own i d h
    exact ⟨a, h1, ⟨xs, ds, e1, e2, m.ext _ _ e3 (fun ps z => nomatch z), e4.ext ex⟩, h3⟩
  · obtain ⟨u, h, n, l⟩ := s.trk b hb
    exact ⟨u, m.ext _ _ h n, n, l⟩
theorem code_ne_dict {c : Addr} {q : Str} {w : World} {xs : List (NestedKey × Addr × V)} (h : LamX.CodeO c q = DictN w c xs) : False := by
  unfold LamX.CodeO DictN at h
  injection h with h
  have g : (⟨Array.replicate (c + 1) ⟨.none, none, .fields #[.none, .str q 0], #[]⟩, {}⟩ : Heap).get? c = some ⟨.none, none, .fields #[.none, .str q 0], #[]⟩ := by
    unfold Heap.get?
    simp
  have h1 := congrFun h ⟨Array.replicate (c + 1) ⟨.none, none, .fields #[.none, .str q 0], #[]⟩, {}⟩
  have h2 : ∃ (oc : Obj) (vs : Array Value) (t : Tok), (⟨Array.replicate (c + 1) ⟨.none, none, .fields #[.none, .str q 0], #[]⟩, {}⟩ : Heap).get? c = some oc ∧ oc.data = .fields vs ∧ vs[1]? = some (.str q t) := ⟨_, _, _, g, rfl, rfl⟩
  rw [h1] at h2
  obtain ⟨vs, _, _, _, _, o, es, ep, e, _, d, _⟩ := h2
  rw [g] at e
  cases e
  cases d
theorem Made.rep {k : Nat} (m : Made Z.T J [] H H1 f c) (s : SR Z A H O σ ρ) (hk : Z.lam k J = true) (hf : J.fr = []) : Rep Z H1 O (.ref f) (.clo k []) := by
  have s1 := (s.made m).2
  refine .clo (cl := []) (c := c) hk (fun _ => rfl) ⟨m.fn, fun z => ?_⟩ ⟨m.cd, fun z => ?_⟩ (by rw [hf]; exact .nil)
  · exact (s.trk f z).ne m.new
  · obtain ⟨u, h, _, ⟨xs, rfl⟩ | ⟨w, xs, rfl⟩⟩ := s1.trk c z
    · rw [m.cd] at h
      unfold LamX.CodeO at h
      cases h
    · rw [m.cd] at h
      exact code_ne_dict (Option.some.inj h)
end
theorem cloFrom_nil {cells : List (Str × Addr)} : ∀ {names : List (Str × NameKind)}, (names.all fun y => !(y.2 == .free)) = true → cloFrom cells names [] = []
  | [], _ => rfl
  | (n, k) :: r, h => by
    rw [List.all_cons, Bool.and_eq_true, Bool.not_eq_true'] at h
    unfold cloFrom
    rw [if_neg (by rw [h.1]; exact Bool.false_ne_true)]
    exact cloFrom_nil h.2
theorem noFree {names : List (Str × NameKind)} (h : (names.all fun y => !(y.2 == .free)) = true) : ∀ y ∈ names, y.2 ≠ .free := fun y hy z => by
  have := List.all_eq_true.mp h y hy
  rw [z] at this
  cases this
/-- a made function that captures nothing: its parameters, its names, its body -/
structure Cf where
  ps : List Str
  N : List Str
  body : Ex
def plainArgs (p : Arguments) (ps : List Str) : Bool := match p with
  | ⟨[], as, none, [], [], none, []⟩ => decide (as.map (·.arg) = ps)
  | _ => false
def Cf.chk (d : Cf) (J : LamI) : Bool := match J.body with
  | .expr b => plainArgs J.params d.ps && C8.scC d.N d.ps J.scope && J.fr.isEmpty && d.body.chk ⟨d.N, J.scope.names, [], J.qual ++ ".<locals>.", none⟩ b
  | _ => false
def Cf.den (d : Cf) (ds : List D) : FO := endS [] false (So.after (d.body.den (startE d.N.length [] ds)) fun v ρ => .rt v ρ)
def Cf.sem (d : Cf) : FSem := ⟨d.den, [], false, d.ps.length⟩
theorem plainArgs_of {p : Arguments} {ps : List Str} (h : plainArgs p ps = true) : ∃ as, p = ⟨[], as, none, [], [], none, []⟩ ∧ as.map (·.arg) = ps := by
  unfold plainArgs at h
  split at h
  · exact ⟨_, rfl, of_decide_eq_true h⟩
  · cases h
/-- the rule for a made function's body -/
theorem clo_ok {G : Gd} {d : Cf} {k i : Nat} (hi : ∀ J, G.L.lam i J = true → d.chk J = true) (blt : ∀ x ∈ blts, G.mg x = none) (n : HasW G k d.body.need) : CloW G (k + 1) i d.sem := by
  intro J hJ _ A hg hr outer s H f c us vs Q E e0 hf hc rv q
  have h := hi J hJ
  unfold Cf.chk at h
  split at h
  case h_2 => cases h
  rename_i b hb
  simp only [Bool.and_eq_true] at h
  obtain ⟨⟨⟨h1, h2⟩, h3⟩, h4⟩ := h
  have S := C8.fnScope_by h2
  obtain ⟨as, hp, hn⟩ := plainArgs_of h1
  obtain ⟨O, az, ds, t, tb, a, hl, q⟩ := q
  have hl : ds.length = d.ps.length := hl
  have hvl : vs.length = d.ps.length := by rw [a.len, hl]
  have hul : us.length = d.ps.length := by rw [← rv.length]; exact hvl
  have ndP : d.ps.Nodup := by rw [← S.pre]; exact S.nd.sublist (List.take_sublist _ _)
  obtain ⟨⟨od, sl, doc, pm, ctv, ho⟩, _, _⟩ := e0.hok f _ hf
  obtain ⟨⟨oc, cvs, ct, hoc, hcd, hcv⟩, _, _⟩ := e0.hok c _ hc
  have hbind : bindArgs (J.fd [] c doc pm ctv) ⟨us, []⟩ = pure (d.ps.zip us) := bind_plain hp rfl hn ndP hul
  have cells : ∀ y ∈ d.ps.zip us, J.scope.names.lookup y.1 = some .local ∨ (J.scope.names.lookup y.1 = some .cell ∧ ((cellsFrom (s.heap.objs.size + 1) J.scope.names []).lookup y.1).isSome = true) := by
    rintro ⟨x, v⟩ hy
    cases S.par x (List.of_mem_zip hy).1 with
    | inl q => exact .inl q
    | inr q => exact .inr ⟨q, PySem.W.cellsFrom_some _ _ _ (.inl q)⟩
  refine PySem.W.kla_callFunE hr.depth ho rfl S.co S.gen hb ⟨c, oc, cvs, ct, rfl, hoc, hcd, hcv⟩ ?_
  rw [hbind]
  refine wpAny_pure (wpAny_newFunctionEnv_cells S.kind cells fun env he s1 x => ?_)
  subst he
  have lim : s1.heap.NoLimit := (e0.mod.nolimit.keeps fun b o e => (e0.bs b o e).1).keeps x.toInCall.keep
  refine ⟨lim, ?_⟩
  have I : Inv (cxOf (CX G.P G.w) G.P G.w G.K G.mg G.base d.N J.qual J.scope f (.ref c) A outer s H E) [] (L2.start d.N vs) H s1 := inv_start S hr.hd e0 hvl rv x
  have hpl : d.ps.length ≤ d.N.length := by
    have := congrArg List.length S.pre
    rw [List.length_take] at this
    omega
  have sr : SR G.z (An.mk H (([] : List Nat).zip az) O) H O (L2.start d.N vs) (startE d.N.length [] ds) := start_SR (N := d.N) t tb a (by rw [hl]; exact hpl)
  have ck : Cxt (cxOf (CX G.P G.w) G.P G.w G.K G.mg G.base d.N J.qual J.scope f (.ref c) A outer s H E) G.L (An.mk H (([] : List Nat).zip az) O) (fun cls dd _ H => E cls dd H) k ⟨d.N, J.scope.names, [], J.qual ++ ".<locals>.", none⟩ :=
    ⟨rfl, S.nd, rfl, fun x c h => .inl h, fun x _ => .inl rfl, takes_of rfl rfl rfl rfl, hr.deeper _, blt, hg, passes_of rfl, rfl, fun _ z => nomatch z⟩
  have n' : Has (cxOf (CX G.P G.w) G.P G.w G.K G.mg G.base d.N J.qual J.scope f (.ref c) A outer s H E) G.L k d.body.need := ⟨n.fs, n.gs, n.kw, n.cl, n.lm⟩
  have las : az = [] := by
    have := a.las
    exact List.length_eq_zero_iff.mp this
  subst las
  have red : tS G.z (An.mk H (([] : List Nat).zip ([] : List Addr)) O) (fun cls dd _ H => E cls dd H) d.body.den (L2.start d.N vs) H Q := by
    refine ⟨_, O, sr, ?_⟩
    have q : match d.den ds with
      | .no => False
      | .ok e os => (false = true → ∃ es, e = .lst es ∧ ∀ p xs H', Ext0 H [] H' → NdefX.TabsN G.z.T H' → H p = none → H' p = some (.lst xs) → Reps G.z H' (p :: O) xs es → OutsR G.z H' (p :: O) [] os → Q (.ref p) H') ∧
          (false = false → ∀ v H', Ext0 H [] H' → NdefX.TabsN G.z.T H' → OutsR G.z H' O [] os → Rep G.z H' O v e → Q v H')
      | .er x os => ∀ cls dd H', Ext0 H [] H' → NdefX.TabsN G.z.T H' → OutsR G.z H' O [] os → RepX G.z H' O cls dd x → E cls dd H' := q
    unfold Cf.den at q
    have outs : ∀ {H' : Hp}, OutsR G.z H' O [] [] := ⟨rfl, fun j a h => by simp at h⟩
    cases hd : d.body.den (startE d.N.length [] ds) with
    | no => rw [hd] at q; exact q
    | ok e ρ =>
      rw [hd] at q
      intro v H' O' e' s' r'
      have st : Ext0 H [] H' := ⟨fun b u h1 h2 h3 => s'.anc b u h1 (fun z => nomatch z) h3, s'.dom⟩
      have sb : ∀ b ∈ O, b ∈ O' := s'.sub
      exact q.2 rfl v H' st s'.tabs outs (r'.ext (Ext.sub sb))
    | er y ρ =>
      rw [hd] at q
      intro σ' cls dd H' O' e' s' rx
      have st : Ext0 H [] H' := ⟨fun b u h1 h2 h3 => s'.anc b u h1 (fun z => nomatch z) h3, s'.dom⟩
      have sb : ∀ b ∈ O, b ∈ O' := s'.sub
      refine q cls dd H' st s'.tabs outs ?_
      obtain ⟨C, q1, q2, q3⟩ := rx
      refine ⟨C, q1, q2, ?_⟩
      rcases q3 with q3 | ⟨b, fs, z1, z2, z3, z4⟩
      · exact .inl q3
      · exact .inr ⟨b, fs, z1, z2.ext (Ext.sub sb) (fun _ z => nomatch z), z3, z4.ext (Ext.sub sb)⟩
  refine PySem.W.kla_codeExpr (wpAny_mono ((d.body.ok ck n' b h4).run [] s1 (L2.start d.N vs) H Q I red) (fun u s2 h2 => ?_) fun e s2 h2 => h2)
  obtain ⟨v, H', J', r, q⟩ := h2
  exact ⟨v, H', J'.os, J'.bare, J'.base, J'.hok, r, q⟩
end Ev
set_option Elab.async false
set_option maxRecDepth 100000
set_option maxHeartbeats 4000000
/-! EvS: lambda .., a call of what a name holds. -/
namespace Ev
open PySem PySem.Spec PyProof.Rows L2

/-- the words of a lambda that captures nothing -/
def lamI (q : Str) (params : Arguments) (body : Expr) (scope : Scope) : LamI := ⟨"<lambda>", q ++ "<lambda>", params, .expr body, scope, []⟩
def nmAt (k : Ck) (pos : Pos) : Option Str := k.nm.map fun f => f pos.line pos.col
def noDefs : Arguments → Bool
  | ⟨_, _, _, _, [], _, []⟩ => true
  | _ => false
theorem noDefs_of {p : Arguments} {env : PySem.Env} (h : noDefs p = true) : defaultsOf p env = ([], []) := by
  unfold noDefs at h
  split at h
  · rfl
  · cases h
/-- lambda ..: nothing captured -/
def Ex.lam (i : Nat) (d : Cf) : Ex := .plain (dCon (.clo i [])) (fun k x => match x with
    | .Lambda params body scope pos => noDefs params && (scope.names.all fun y => !(y.2 == .free)) && decide (nmAt k pos = some (k.q ++ "<lambda>")) && d.chk (lamI k.q params body scope)
    | _ => false) ⟨[], [], [], [], [(i, d.chk)]⟩ (fun {X L A W lev k} c n x h => by
  split at h
  · rename_i params body scope pos
    simp only [Bool.and_eq_true, decide_eq_true_eq] at h
    obtain ⟨⟨⟨h1, h2⟩, h3⟩, h4⟩ := h
    obtain ⟨nm, hn, hq⟩ := Option.map_eq_some_iff.mp (show k.nm.map (fun f => f pos.line pos.col) = some (k.q ++ "<lambda>") from h3)
    obtain ⟨cc, P, t1, t2, t3, t4⟩ := c.tab nm hn
    refine ⟨fun pins s σ H Q I ⟨ρ, O, sr, q⟩ => ?_⟩
    refine lam_made (fr := []) I t2 t1 t3 (by rw [c.qual]; exact hq) t4 sr.tabs (noDefs_of h1) (fun y hy e => absurd e (noFree h2 y hy)) fun f c' H1 s' I1 m => ?_
    rw [cloFrom_nil h2, c.qual] at m
    obtain ⟨ex, s1⟩ := sr.made m
    have hl := n.lm (i, d.chk) (List.mem_singleton.mpr rfl)
    exact ⟨.ref f, H1, I1, rfl, q (.ref f) H1 O ex s1 (m.rep sr (by show L.lam i _ = true; rw [hl]; exact h4) rfl)⟩
  · cases h) (fun k x h => by split at h <;> first | rfl | cases h)

/-! ### x(..), x a name that holds a made function -/
def cloOf (tb : List (Nat × FSem)) (ρ : En) (i : Nat) : Option FSem := match ρ[i]? with
  | some (.v (.clo k [])) => tb.lookup k
  | _ => none
def callvD (tb : List (Nat × FSem)) (i : Nat) (as : As) : En → Out D := fun ρ => match cloOf tb ρ i with
  | some F => (as.den ρ).bind fun ds ρ1 => if ds.length = F.ar ∧ F.io = [] then callK F [] ds ρ1 else .no
  | none => .no
theorem lookup_mem {α : Type} : ∀ {l : List (Nat × α)} {k : Nat} {a : α}, l.lookup k = some a → (k, a) ∈ l
  | [], _, _, h => by cases h
  | (j, b) :: l, k, a, h => by
    by_cases e : (k == j) = true
    · rw [List.lookup_cons, e] at h
      have h : b = a := Option.some.inj h
      have e : k = j := by simpa using e
      rw [h, e]
      exact List.mem_cons_self
    · have e : (k == j) = false := by simpa using e
      rw [List.lookup_cons, e] at h
      exact List.mem_cons_of_mem _ (lookup_mem h)
def Ex.callv (tb : List (Nat × FSem)) (i : Nat) (as : As) : Ex := .plain (callvD tb i as) (fun k x => match x with
    | .Call (.Name y _) (a :: es) [] _ => k.vis i y && notStar a && es.all notStar && as.chk k (a :: es)
    | _ => false) (Need.app ⟨[], [], [], tb, []⟩ as.need) (fun {X L A W lev k} c n x h => by
  split at h
  · rename_i y p a es pos
    simp only [Bool.and_eq_true] at h
    obtain ⟨⟨⟨h1, h2⟩, h3⟩, h4⟩ := h
    obtain ⟨c1, c2, c3, c4⟩ := c.visOk h1
    refine ⟨fun pins s σ H Q I ⟨ρ, O, sr, q⟩ => ?_⟩
    unfold callvD at q
    split at q
    case h_2 => exact q.elim
    rename_i F hF
    unfold cloOf at hF
    split at hF
    case h_2 => cases hF
    rename_i kk hk
    obtain ⟨v, hv, rv⟩ := sr.val i _ hk
    have hcl := n.left.cl (kk, F) (lookup_mem hF)
    cases rv with
    | clo hl h0 hf hc cap =>
      rename_i f cc I0 cl
      have fr0 : I0.fr = [] := by
        generalize hfr : I0.fr = fr at cap
        cases cap
        rfl
      have hcl0 := h0 fr0
      subst hcl0
      have run := hcl I0 hl fr0
      refine wpAny_Call_Name_kw (thn ((pe_var (pos := p) c1 c2 c3 c4).run pins s σ H (fun v H1 => v = .ref f ∧ H1 = H) I ⟨.ref f, hv, rfl, rfl⟩) fun u s1 ⟨v1, H1, I1, r1, q1⟩ => ?_)
      obtain ⟨ev, eH⟩ := q1
      subst ev
      subst eH
      obtain rfl : u = Value.ref f := r1
      have fnAt : ∀ {s2 : Shared} {H2 : Hp}, Inv X pins σ H2 s2 → H2 f = some (FnObj I0 [] cc f) → PySem.W.FnAt f s2.heap := fun {s2 H2} I2 e => by
        obtain ⟨⟨od, sl, doc, pm, ctv, ho⟩, _, _⟩ := I2.hok f _ e
        exact ⟨_, od, _, sl, ho⟩
      have red : tA (zx X L) A W as.den σ H1 (fun vs H2 => H2 f = some (FnObj I0 [] cc f) ∧ H2 cc = some (LamX.CodeO cc I0.qual) ∧ spOf (zx X L) F vs H2 Q (WE W σ)) := by
        refine tA_bind sr q fun ds ρ1 vs H2 O2 e2 s2 r2 hk2 => ?_
        split at hk2
        · rename_i hlen
          refine ⟨(e2 f _ hf.1 hf.2 (fun ps => fnObj_ne ps)).1, (e2 cc _ hc.1 hc.2 (fun ps => LamX.codeO_ne ps)).1, ?_⟩
          refine call_sp (own := []) s2 (by unfold ownFits; rw [hlen.2]; rfl) hlen.1 ⟨r2.length, fun i v d a b => ⟨fun j hj => (nomatch hj), fun _ => ?_⟩⟩ hk2 fun d ρ' hd => ⟨fun es hfr hes p xs H' e' hp np hp' s' s3 rs => ?_, fun hfr v H' e' s' rv => hd v H' O2 (e2.trans e') s' rv⟩
          · obtain ⟨d', z1, z2⟩ := r2.get a
            rw [b] at z1
            cases z1
            exact z2
          · subst hes
            exact hd _ H' O2 (e2.trans e') s' (.lst ⟨hp', np⟩ (rs.ext Ext.pop))
        · exact hk2.elim
      refine PySem.W.callWith_F (first := []) (fnAt I1 hf.1) (thn ((as.ok c n.right _ h4).run pos pins s1 σ H1 _ I1 red) fun us s2 ⟨vs, H2, I2, r2, g1, g2, g3⟩ => ⟨fnAt I2 g1, ?_⟩) (starEach_cons h2) (noStars h3)
      show wpAny (model X.prog X.w) X.A (PySem.call (Value.ref f) us) _ _ _
      refine wpAny_call (codeAny_mono (run X.A c.gd c.room X.stack s2 H2 f cc us vs Q (WE W σ) I2.env0 g1 g2 r2 g3) fun res s' hq => ?_)
      match res, hq with
      | .error e, hq => exact passAt c.tk σ pins H2 s2 e s' I2 hq
      | .ok (.ret u), hq => exact I2.after hq
  · cases h) (fun k x h => by split at h <;> first | rfl | cases h)
end Ev
set_option Elab.async false
set_option maxRecDepth 100000
set_option maxHeartbeats 4000000
/-! EvT: a call that gets a new list, to change it. -/
namespace Ev
open PySem PySem.Spec PyProof.Rows L2

section
variable {Z : Zx} {A : An} {H H' : Hp} {O : List Addr} {σ : L2.St} {ρ : En}
theorem SR.temp (s : SR Z A H O σ ρ) {p : Addr} {os : List D} (hA : A.H p = none) (no : ∀ (j : Nat) (d : D), ρ[j]? = some (.o d) → σ[j]? ≠ some (some (.ref p))) (hO : p ∈ O) (e0 : Ext0 H [p] H') (tb : NdefX.TabsN Z.T H') (out : OutsR Z H' O [p] os) : Ext H O H' O ∧ SR Z A H' O σ ρ := by
  have ex : Ext H O H' O := fun b u h n t => ⟨e0.st b u h (fun z => n (by rw [List.mem_singleton.mp z]; exact hO)) t, n⟩
  refine ⟨ex, ⟨s.len, fun i d h => ?_, fun i d h => ?_, s.sep, tb, fun b u h1 h2 h3 => ?_, fun b h => e0.dom b (s.dom b h), s.sub, fun b hb => ?_, s.io⟩⟩
  · obtain ⟨v, h1, h2⟩ := s.val i d h
    exact ⟨v, h1, h2.ext ex⟩
  · obtain ⟨a, h1, ⟨xs, ds, q1, q2, q3, q4⟩, h3⟩ := s.own i d h
    refine ⟨a, h1, ⟨xs, ds, q1, q2, e0.st a _ q3 (fun z => ?_) (fun ps z => nomatch z), q4.ext ex⟩, h3⟩
    rw [List.mem_singleton.mp z] at h1
    exact no i d h h1
  · refine e0.st b u (s.anc b u h1 h2 h3) (fun z => ?_) h3
    rw [List.mem_singleton.mp z, hA] at h1
    cases h1
  · obtain ⟨u, h1, h2, h3⟩ := s.trk b hb
    by_cases hz : b = p
    · subst hz
      obtain ⟨d, _, ys, es, _, _, g, _⟩ := out.2 0 b rfl
      exact ⟨_, g, fun ps z => (nomatch z), .inl ⟨_, rfl⟩⟩
    · exact ⟨u, e0.st b u h1 (fun z => hz (List.mem_singleton.mp z)) h2, h2, h3⟩
end
def callfK (F : FSem) (ds : List D) (ρ : En) : Out D := match F.den [.lst ds] with
  | .ok d _ => .ok d ρ
  | .er x _ => .er x ρ
  | .no => .no
def fitF (F : FSem) : Bool := decide (F.io = [0]) && decide (F.ar = 1) && !F.fresh
/-- f(a new list) -/
def Ex.callf (x : Str) (F : FSem) (f : Fx) : Ex := .plain (fun ρ => (f.den ρ).bind fun ds ρ1 => callfK F ds ρ1) (fun k e => match e with
    | .Call (.Name y _) [a] [] _ => decide (y = x) && k.gl y && notStar a && fitF F && f.chk k a
    | _ => false) (Need.app (.fn x F) f.need) (fun {X L A W lev k} c n e h => by
  split at h
  · rename_i y p a pos
    simp only [Bool.and_eq_true, decide_eq_true_eq] at h
    obtain ⟨⟨⟨⟨rfl, g1⟩, g2⟩, g3⟩, g4⟩ := h
    unfold fitF at g3
    simp only [Bool.and_eq_true, decide_eq_true_eq, Bool.not_eq_true'] at g3
    obtain ⟨⟨f1, f2⟩, f3⟩ := g3
    obtain ⟨f0, fd, ps, h1, h2, h3, h4, h5⟩ := n.left.fs (y, F) (List.mem_singleton.mpr rfl)
    obtain ⟨c1, c2, c3⟩ := c.glOk g1
    refine ⟨fun pins s σ H Q I q => ?_⟩
    refine wpAny_Call_Name_kw (ld_glob I c1 h1 ?_ c2)
    have red : tCons (tN (zx X L) A W f.den) tNil σ H (fun vs H1 => spOf (zx X L) F vs H1 Q (WE W σ)) := by
      obtain ⟨ρ, O, sr, q⟩ := q
      refine ⟨ρ, O, sr, (Out.post_bind q).mono (fun ds ρ1 hk p xs H1 O1 e1 m1 m2 m3 m4 m5 s1 r1 => ?_) fun _ _ z => z⟩
      have own : OwnAt (zx X L) H1 O1 p (.lst ds) := ⟨xs, ds, rfl, m3, m5, r1⟩
      refine ⟨O1, [p], [.lst ds], s1.trk, s1.tabs, ?_, by rw [f2]; rfl, ?_⟩
      · rw [f1]
        refine ⟨rfl, rfl, (by simp), fun i v d a b hi => ?_, fun j i a hj ha => ?_⟩
        · cases i with
          | zero => exact absurd List.mem_cons_self hi
          | succ i => simp at a
        · cases j with
          | zero =>
            simp at hj ha
            subst hj ha
            exact ⟨.lst ds, rfl, rfl, own⟩
          | succ j => simp at ha
      · unfold callfK at hk
        cases hd : F.den [.lst ds] with
        | no => rw [hd] at hk; exact hk
        | ok d os =>
          rw [hd] at hk
          refine ⟨fun z => (by rw [f3] at z; cases z), fun _ v H2 e0 tb out rv => ?_⟩
          obtain ⟨ex, s2⟩ := s1.temp m1 m4 m3 e0 tb out
          exact hk v H2 O1 (e1.trans ex) s2 rv
        | er x os =>
          rw [hd] at hk
          intro cls dd H2 e0 tb out rx
          obtain ⟨ex, s2⟩ := s1.temp m1 m4 m3 e0 tb out
          exact hk σ cls dd H2 O1 (e1.trans ex) s2 rx
    refine PySem.W.callWith_K (h₀ := X.base) I.ok.mod.kin h2 (thn ((pa_cons (f.ok c n.right a g4) pa_nil (starEach_cons g2)).run pos pins s σ H _ I red) fun us s1 ⟨vs, H1, I1, r, q1⟩ => ⟨I1.kIn, ?_⟩) (starEach_cons g2) rfl
    exact run_G c h5 h4 I1 r q1
  · cases h) (fun k x h => by split at h <;> first | rfl | cases h)
end Ev
set_option Elab.async false
set_option maxRecDepth 100000
set_option maxHeartbeats 4000000
/-! EvU: from what the head knows to the promises. -/
namespace Ev
open PySem PySem.Spec PyProof.Rows L2

def Df.all (d : Df) (st : Stmt) : Bool := d.chk st && plainArgs (defArgs st) d.ps
section
variable {G : Gd} {d : Df} {st : Stmt} {k : Nat} {f : Addr} {kV doc pm cdv ct oc : Value} {an od : Option Addr} {osl : Array (Option Value)}
theorem psNodup (h : d.chk st = true) : d.ps.Nodup := by
  unfold Df.chk at h
  simp only [Bool.and_eq_true] at h
  have S := C8.fnScope_by h.1.1.1
  rw [← S.pre]
  exact S.nd.sublist (List.take_sublist _ _)
theorem fnW_of (hmg : G.mg d.name = some (.ref f)) (lk : G.K.lookup f = some ⟨oc, od, .func (PySem.W.fnOf d.name d.name (defArgs st) (defBody st) (defScope st) .none kV doc pm an cdv ct), osl⟩) (hcd : PySem.W.codeIn G.K cdv d.name = true) (keep : PySem.W.keepIn G.K (.ref f) = true)
    (h : d.all st = true) (blt : ∀ x ∈ blts, G.mg x = none) (tab : ∀ nm, d.nm = some nm → ∃ c P, cdv = .ref c ∧ LamX.TabB G.base G.mg c P ∧ (P, nm) ∈ G.L.T ∧ ∀ p ∈ G.L.T, p.1 = P → p.2 = nm) (n : HasW G k d.body.need) : FnW G (k + 1) d.name d.sem := by
  unfold Df.all at h
  rw [Bool.and_eq_true] at h
  obtain ⟨as, hp, hn⟩ := plainArgs_of h.2
  exact ⟨f, _, d.ps, hmg, keep, rfl, Binds.all fun us hl => bind_plain hp rfl hn (psNodup h.1) hl, df_ok lk hcd h.1 blt tab n⟩
theorem fnWK_of (hmg : G.mg d.name = some (.ref f)) (lk : G.K.lookup f = some ⟨oc, od, .func (PySem.W.fnOf d.name d.name (defArgs st) (defBody st) (defScope st) .none kV doc pm an cdv ct), osl⟩) (hcd : PySem.W.codeIn G.K cdv d.name = true) (keep : PySem.W.keepIn G.K (.ref f) = true)
    (h : d.all st = true) (blt : ∀ x ∈ blts, G.mg x = none) (tab : ∀ nm, d.nm = some nm → ∃ c P, cdv = .ref c ∧ LamX.TabB G.base G.mg c P ∧ (P, nm) ∈ G.L.T ∧ ∀ p ∈ G.L.T, p.1 = P → p.2 = nm) (n : HasW G k d.body.need)
    {ks : List Str} {pmm : List Nat} (hb : ∀ ws : List Value, ws.length = ks.length → bindArgs (PySem.W.fnOf d.name d.name (defArgs st) (defBody st) (defScope st) .none kV doc pm an cdv ct) ⟨[], ks.zip ws⟩ = pure (d.ps.zip (pmm.map fun i => ws.getD i .none))) : FnWK G (k + 1) d.name d.sem ks pmm := by
  unfold Df.all at h
  rw [Bool.and_eq_true] at h
  exact ⟨f, _, d.ps, hmg, keep, rfl, fun s ws _ hl => .of_eq (hb ws hl), df_ok lk hcd h.1 blt tab n⟩
end
theorem CloW.mono {G : Gd} {j k i : Nat} {F : FSem} (h : CloW G j i F) (l : j ≤ k) : CloW G k i F := fun I hI hf A hg hr => h I hI hf A hg (hr.mono l)
theorem FnWK.mono {G : Gd} {j k : Nat} {x : Str} {F : FSem} {ks : List Str} {pm : List Nat} (h : FnWK G j x F ks pm) (l : j ≤ k) : FnWK G k x F ks pm := by
  obtain ⟨f, fd, ps, h1, h2, h3, h4, h5⟩ := h
  exact ⟨f, fd, ps, h1, h2, h3, h4, h5.mono l⟩
theorem noTab {G : Gd} {d : Df} {cdv : Value} (h : d.nm = none) : ∀ nm, d.nm = some nm → ∃ c P, cdv = .ref c ∧ LamX.TabB G.base G.mg c P ∧ (P, nm) ∈ G.L.T ∧ ∀ p ∈ G.L.T, p.1 = P → p.2 = nm := fun nm z => by
  rw [h] at z
  cases z
/-- a module constant: an int, a text, a tuple of texts -/
theorem globInt {Z : Zx} {x : Str} {i : Int} {t : Tok} (h : Z.mg x = some (.int i t)) : GlobOk Z x (.int i) := ⟨_, .int i, h, ⟨t, rfl⟩, fun _ _ => .int i, fun _ _ z => nomatch z⟩
theorem globStr {Z : Zx} {x : Str} {s : Str} {t : Tok} (h : Z.mg x = some (.str s t)) (hs : PyData.strOk s = true) : GlobOk Z x (.str s) := ⟨_, .str s, h, ⟨t, rfl⟩, fun _ _ => .str s hs, fun _ _ z => nomatch z⟩
theorem reps_of {Z : Zx} {H : Hp} {O : List Addr} : ∀ {zs : List Str}, (zs.all fun s => PyData.strOk s) = true → Reps Z H O (zs.map V.str) (zs.map D.str)
  | [], _ => .nil
  | z :: zs, h => by
    rw [List.all_cons, Bool.and_eq_true] at h
    exact .cons (.str z h.1) (reps_of h.2)
def strVals : List Str → List Tok → List Value
  | z :: zs, t :: ts => .str z t :: strVals zs ts
  | _, _ => []
theorem vals_strs : ∀ {zs : List Str} {ts : List Tok}, ts.length = zs.length → Vals (zs.map V.str) (strVals zs ts)
  | [], [], _ => .nil
  | z :: zs, t :: ts, h => .cons ⟨t, rfl⟩ (vals_strs (by simpa using h))
theorem globStrs {Z : Zx} {x : Str} {a : Addr} {zs : List Str} {its : Array Value} {n : Nat} {sl : Array (Option Value)} (h : Z.mg x = some (.ref a)) (lk : Z.K.lookup a = some ⟨.type "tuple", none, .seq its n, sl⟩) (hz : its.size ≤ sizeLine)
    (hv : Vals (zs.map V.str) its.toList) (hs : (zs.all fun s => PyData.strOk s) = true) : GlobOk Z x (.tup (zs.map D.str)) :=
  ⟨_, .ref a, h, rfl, fun H O => .tupK (.inr ⟨_, its, n, lk, rfl, rfl, hz, hv⟩) (reps_of hs), fun p o e l => by
    cases e
    rw [lk] at l
    cases l
    rfl⟩
theorem has_nil {G : Gd} {lev : Nat} : ∀ p ∈ ([] : List (Nat × (LamI → Bool))), G.L.lam p.1 = p.2 := fun _ h => nomatch h
/-- the law's own promise, asked of the script -/
theorem law_sp {Z : Zx} {F : FSem} (h1 : F.io = []) (h2 : F.fresh = false) (h3 : F.ar = 1) {H : Hp} {a : Addr} {ns : List Int} (tb : NdefX.TabsN Z.T H) (hs : ScrAt Z.K H a ns) (hd : F.den [.scr ns] = .ok (.bl true) []) :
    spOf Z F [.ref a] H (fun v _ => v = .bl true) fun _ _ _ => False := by
  have r : Rep Z H [] (.ref a) (.scr ns) := by
    rcases hs with ⟨o, h⟩ | h
    · exact .scr ⟨h, fun z => nomatch z⟩
    · exact .scrK h
  refine ⟨[], [], [.scr ns], fun b hb => (nomatch hb), tb, ?_, h3.symm ▸ rfl, ?_⟩
  · rw [h1]
    refine ⟨rfl, rfl, List.Pairwise.nil, fun i v d e1 e2 _ => ?_, fun j i b e1 _ => by simp at e1⟩
    cases i with
    | zero =>
      simp at e1 e2
      subst e1 e2
      exact r
    | succ i => simp at e1
  · rw [hd]
    refine ⟨fun z => (by rw [h2] at z; cases z), fun _ v H' _ _ _ rv => ?_⟩
    cases rv
    rfl
theorem blt_of {K : PySem.W.Frag} {h : Heap} {mg : Str → Option Value} (X : K.In h) (G : h.Ns mainGlobals mg) (z : (blts.all fun x => (match PySem.W.nsIn K mainGlobals x with | some none => true | _ => false)) = true) : ∀ x ∈ blts, mg x = none := fun x hx => by
  have q := List.all_eq_true.mp z x hx
  split at q
  · rename_i e
    exact PySem.W.mg_none_of X G e
  · cases q
theorem tabs0 {T : List NdefX.NTab} {H : Hp} (h : ∀ p ∈ T, H p.1 = some (.tbl #[])) : NdefX.TabsN T H := fun p hp => NdefX.TabN.nil (h p hp)
end Ev
set_option Elab.async false
set_option maxRecDepth 100000
set_option maxHeartbeats 4000000
/-! EvV: the denotations, as rows that simp may use. -/
namespace Ev
open PySem PySem.Spec PyProof.Rows L2

section
variable {α β : Type}
@[simp] theorem bind_ok (a : α) (ρ : En) (k : α → En → Out β) : (Out.ok a ρ).bind k = k a ρ := rfl
@[simp] theorem bind_no (k : α → En → Out β) : (Out.no : Out α).bind k = .no := rfl
@[simp] theorem lift_some (a : α) (ρ : En) : Out.lift (some a) ρ = .ok a ρ := rfl
@[simp] theorem lift_none (ρ : En) : (Out.lift none ρ : Out α) = .no := rfl
@[simp] theorem after_ok (a : α) (ρ : En) (k : α → En → So) : So.after (Out.ok a ρ) k = k a ρ := rfl
@[simp] theorem next_nx (ρ : En) (k : En → So) : (So.nx ρ).next k = k ρ := rfl
@[simp] theorem next_rt (d : D) (ρ : En) (k : En → So) : (So.rt d ρ).next k = .rt d ρ := rfl
@[simp] theorem next_rf (d : List D) (ρ : En) (k : En → So) : (So.rf d ρ).next k = .rf d ρ := rfl
end
def r1D (ds : List D) : Option (List D) := match ds with | [.int j] => rngD [.int j] | _ => none
section
variable (a b c : Ex) (as : As) (i j : Nat) (ρ : En)
@[simp] theorem den_var : (Ex.var i).den = dVar i := rfl
@[simp] theorem den_int (n : Int) : (Ex.int n).den = dCon (.int n) := rfl
@[simp] theorem den_str (s : Str) : (Ex.str s).den = dCon (.str s) := rfl
@[simp] theorem den_bl (x : Bool) : (Ex.bl x).den = dCon (.bl x) := rfl
@[simp] theorem den_non : Ex.non.den = dCon .non := rfl
@[simp] theorem den_glo (y : Str) (d : D) : (Ex.glo y d).den = dCon d := rfl
@[simp] theorem den_dict0 : Ex.dict0.den = dCon (.dic []) := rfl
@[simp] theorem den_lam (d : Cf) : (Ex.lam i d).den = dCon (.clo i []) := rfl
@[simp] theorem con_at (d : D) : dCon d ρ = .ok d ρ := rfl
@[simp] theorem as_nil : As.nil.den ρ = .ok [] ρ := rfl
@[simp] theorem as_cons (r : As) : (As.cons a r).den ρ = (a.den ρ).bind fun d ρ1 => (r.den ρ1).bind fun ds ρ2 => .ok (d :: ds) ρ2 := rfl
@[simp] theorem den_tup : (Ex.tup as).den ρ = (as.den ρ).bind fun ds ρ1 => Out.lift (if ds.length ≤ sizeLine then some (.tup ds) else none) ρ1 := rfl
@[simp] theorem den_lst : (Ex.lst as).den ρ = (as.den ρ).bind fun ds ρ1 => Out.lift (if ds.length ≤ sizeLine then some (.lst ds) else none) ρ1 := rfl
@[simp] theorem den_bin (op : Operator) : (Ex.bin op a b).den ρ = (a.den ρ).bind fun x ρ1 => (b.den ρ1).bind fun y ρ2 => Out.lift (binD op x y) ρ2 := rfl
@[simp] theorem den_neg : (Ex.neg a).den ρ = (a.den ρ).bind fun x ρ1 => Out.lift (match x with | .int i => some (.int (-i)) | _ => none) ρ1 := rfl
@[simp] theorem den_cmp (op : CmpOp) : (Ex.cmp op a b).den ρ = (a.den ρ).bind fun x ρ1 => (b.den ρ1).bind fun y ρ2 => Out.lift (mapB (cmpD op) x y) ρ2 := rfl
@[simp] theorem tst_cmp (op : CmpOp) : (Ex.cmp op a b).tst ρ = (a.den ρ).bind fun x ρ1 => (b.den ρ1).bind fun y ρ2 => Out.lift (cmpD op x y) ρ2 := rfl
@[simp] theorem den_chn (o p : CmpOp) : (Ex.chn o p a b c).den = toD (dChn (cmpD o) (cmpD p) a b c) := rfl
@[simp] theorem tst_chn (o p : CmpOp) : (Ex.chn o p a b c).tst = dChn (cmpD o) (cmpD p) a b c := rfl
@[simp] theorem den_idx : (Ex.idx a b).den ρ = (a.den ρ).bind fun x ρ1 => (b.den ρ1).bind fun y ρ2 => Out.lift (idxD x y) ρ2 := rfl
@[simp] theorem den_sli (lo hi : Po) : (Ex.sli a lo hi).den ρ = (a.den ρ).bind fun x ρ1 => (lo.den ρ1).bind fun l ρ2 => (hi.den ρ2).bind fun u ρ3 => Out.lift (sliD x l u) ρ3 := rfl
@[simp] theorem po_none_at : Po.none.den ρ = .ok none ρ := rfl
@[simp] theorem po_some_at : (Po.some a).den ρ = (a.den ρ).bind fun d ρ1 => match d with | .int i => .ok (some i) ρ1 | _ => .no := rfl
@[simp] theorem den_revT : (Ex.revT a).den ρ = (a.den ρ).bind fun x ρ1 => Out.lift (revTD x) ρ1 := rfl
@[simp] theorem den_bfn (f : BFn) : (Ex.bfn f as).den ρ = (as.den ρ).bind fun ds ρ1 => Out.lift (f.g ds) ρ1 := rfl
@[simp] theorem den_tfn (f : TFn) : (Ex.tfn f as).den ρ = (as.den ρ).bind fun ds ρ1 => Out.lift (f.g ds) ρ1 := rfl
@[simp] theorem g_len : fLen.g = lenD := rfl
@[simp] theorem g_abs : fAbs.g = absD := rfl
@[simp] theorem g_max : fMax.g = maxD := rfl
@[simp] theorem g_min : fMin.g = minD := rfl
@[simp] theorem g_divmod : fDivmod.g = divmodD := rfl
@[simp] theorem g_all : fAll.g = allD := rfl
@[simp] theorem g_any : fAny.g = anyD := rfl
@[simp] theorem g_sum : fSum.g = sumD := rfl
@[simp] theorem g_int : fInt.g = intD := rfl
@[simp] theorem g_list : fList.g = listD := rfl
@[simp] theorem g_tuple : fTuple.g = tupleD := rfl
@[simp] theorem den_isi (T : TyN) : (Ex.isi a T).den ρ = (a.den ρ).bind fun d ρ1 => Out.lift (isiD T.T d) ρ1 := rfl
@[simp] theorem den_oidx : (Ex.oidx i a).den = oidxD i a := rfl
@[simp] theorem den_olen : (Ex.olen i).den = olenD i := rfl
@[simp] theorem den_new (f : Fx) : (Ex.new f).den ρ = (f.den ρ).bind fun ds ρ1 => .ok (.lst ds) ρ1 := rfl
@[simp] theorem den_call (x : Str) (F : FSem) (ar : Ar) : (Ex.call x F ar).den ρ = (ar.den ρ).bind fun ds ρ1 => if ds.length = F.ar then callK F ar.own ds ρ1 else .no := rfl
@[simp] theorem den_call0 (x : Str) (F : FSem) : (Ex.call0 x F).den ρ = if (0 : Nat) = F.ar then callK F [] [] ρ else .no := rfl
@[simp] theorem den_callf (x : Str) (F : FSem) (f : Fx) : (Ex.callf x F f).den ρ = (f.den ρ).bind fun ds ρ1 => callfK F ds ρ1 := rfl
@[simp] theorem den_callkw (x : Str) (F : FSem) (pm : List Nat) (kx : Kx) : (Ex.callkw x F pm kx).den = kwD F pm kx := rfl
@[simp] theorem den_callv (tb : List (Nat × FSem)) : (Ex.callv tb i as).den = callvD tb i as := rfl
@[simp] theorem den_and (x : Bs) : (Ex.and x).den = x.dAnd := rfl
@[simp] theorem den_or (x : Bs) : (Ex.or x).den = x.dOr := rfl
@[simp] theorem tst_and (x : Bs) : (Ex.and x).tst = x.tAnd := rfl
@[simp] theorem tst_or (x : Bs) : (Ex.or x).tst = x.tOr := rfl
@[simp] theorem one_dAnd : (Bs.one a).dAnd = a.den := rfl
@[simp] theorem one_dOr : (Bs.one a).dOr = a.den := rfl
@[simp] theorem one_tAnd : (Bs.one a).tAnd = a.tst := rfl
@[simp] theorem one_tOr : (Bs.one a).tOr = a.tst := rfl
@[simp] theorem cons_dAnd (r : Bs) : (Bs.cons a r).dAnd ρ = (a.den ρ).bind fun d ρ1 => (Out.lift d.truth ρ1).bind fun t ρ2 => if t = true then r.dAnd ρ2 else .ok d ρ2 := rfl
@[simp] theorem cons_dOr (r : Bs) : (Bs.cons a r).dOr ρ = (a.den ρ).bind fun d ρ1 => (Out.lift d.truth ρ1).bind fun t ρ2 => if t = true then .ok d ρ2 else r.dOr ρ2 := rfl
@[simp] theorem cons_tAnd (r : Bs) : (Bs.cons a r).tAnd ρ = (a.tst ρ).bind fun t ρ1 => if t = true then r.tAnd ρ1 else .ok false ρ1 := rfl
@[simp] theorem cons_tOr (r : Bs) : (Bs.cons a r).tOr ρ = (a.tst ρ).bind fun t ρ1 => if t = true then .ok true ρ1 else r.tOr ρ1 := rfl
@[simp] theorem den_not : (Ex.not a).den ρ = (a.den ρ).bind fun d ρ1 => (Out.lift d.truth ρ1).bind fun t ρ2 => .ok (.bl (!t)) ρ2 := rfl
@[simp] theorem tst_not : (Ex.not a).tst ρ = (a.tst ρ).bind fun t ρ1 => .ok (!t) ρ1 := rfl
@[simp] theorem den_ife : (Ex.ife a b c).den ρ = (a.tst ρ).bind fun t ρ1 => if t = true then b.den ρ1 else c.den ρ1 := rfl
@[simp] theorem den_repr (n : Bool) : (Ex.repr n a b).den = toD (dRepr n a b) := rfl
@[simp] theorem tst_repr (n : Bool) : (Ex.repr n a b).tst = dRepr n a b := rfl
-- tests of plain expressions
@[simp] theorem tst_var : (Ex.var i).tst ρ = (dVar i ρ).bind fun d ρ1 => Out.lift d.truth ρ1 := rfl
@[simp] theorem tst_isi (T : TyN) : (Ex.isi a T).tst ρ = ((Ex.isi a T).den ρ).bind fun d ρ1 => Out.lift d.truth ρ1 := rfl
@[simp] theorem tst_call (x : Str) (F : FSem) (ar : Ar) : (Ex.call x F ar).tst ρ = ((Ex.call x F ar).den ρ).bind fun d ρ1 => Out.lift d.truth ρ1 := rfl
@[simp] theorem tst_callv (tb : List (Nat × FSem)) : (Ex.callv tb i as).tst ρ = ((Ex.callv tb i as).den ρ).bind fun d ρ1 => Out.lift d.truth ρ1 := rfl
@[simp] theorem tst_bfn (f : BFn) : (Ex.bfn f as).tst ρ = ((Ex.bfn f as).den ρ).bind fun d ρ1 => Out.lift d.truth ρ1 := rfl
@[simp] theorem toD_at (f : En → Out Bool) : toD f ρ = (f ρ).bind fun x ρ1 => .ok (.bl x) ρ1 := rfl
-- rows of arguments
@[simp] theorem ar_nil : Ar.nil.den ρ = .ok [] ρ := rfl
@[simp] theorem ar_nil_own : Ar.nil.own = [] := rfl
@[simp] theorem ar_cons (r : Ar) : (Ar.cons a r).den ρ = (a.den ρ).bind fun d ρ1 => (r.den ρ1).bind fun ds ρ2 => .ok (d :: ds) ρ2 := rfl
@[simp] theorem ar_cons_own (r : Ar) : (Ar.cons a r).own = up r.own := rfl
@[simp] theorem ar_own (r : Ar) : (Ar.own_ i r).den ρ = if isOwn ρ i = true then (r.den ρ).bind fun ds ρ2 => .ok (.non :: ds) ρ2 else .no := rfl
@[simp] theorem ar_own_own (r : Ar) : (Ar.own_ i r).own = (0, i) :: up r.own := rfl
-- sources, targets
@[simp] theorem sr_val : (Sr.val a).den ρ = (a.den ρ).bind fun d ρ1 => Out.lift (itemsOf d) ρ1 := rfl
@[simp] theorem sr_enum : (Sr.enum as).den ρ = (as.den ρ).bind fun ds ρ1 => Out.lift (enumD ds) ρ1 := rfl
@[simp] theorem sr_zip : (Sr.zip as).den ρ = (as.den ρ).bind fun ds ρ1 => Out.lift (zipsD ds) ρ1 := rfl
@[simp] theorem sr_range1 : (Sr.range1 as).den ρ = (as.den ρ).bind fun ds ρ1 => Out.lift (r1D ds) ρ1 := rfl
@[simp] theorem tg_name : (Tg.name i).den = nameD i := rfl
@[simp] theorem tg_tup (n : Nat) (u : Tgs) : (Tg.tup n u).den = tupD n u.den := rfl
@[simp] theorem tg_sub : (Tg.sub i a).den = subD i a := rfl
@[simp] theorem tgs_nil : Tgs.nil.den = nilD := rfl
@[simp] theorem tgs_cons (t : Tg) (u : Tgs) : (Tgs.cons t u).den = consD t.den u.den := rfl
@[simp] theorem cs_nil : Cs.nil.den ρ = .ok true ρ := rfl
@[simp] theorem cs_one : (Cs.one a).den = a.tst := rfl
@[simp] theorem fx_lst : (Fx.lst as).den ρ = (as.den ρ).bind fun ds ρ1 => if ds.length ≤ sizeLine then .ok ds ρ1 else .no := rfl
@[simp] theorem fx_lc (s : Sr) (t : Tg) (cs : Cs) (vs : List Nat) : (Fx.lc s t cs a vs).den = lcD s.den vs t.den cs.den a.den := rfl
@[simp] theorem fx_call (x : Str) (F : FSem) (ar : Ar) : (Fx.call x F ar).den = callF F ar := rfl
@[simp] theorem fx_listRg1 : (Fx.listRg1 a).den ρ = (a.den ρ).bind fun d ρ1 => Out.lift (match d with | .int j => rgL 0 j | _ => none) ρ1 := rfl
@[simp] theorem den_gindex (y : Str) (ds : List D) : (Ex.gindex y ds a).den ρ = (a.den ρ).bind fun x ρ1 => Out.lift (indexD (.tup ds) x) ρ1 := rfl
@[simp] theorem den_lindex : (Ex.lindex a b).den ρ = (a.den ρ).bind fun x ρ1 => if isL x = true then (b.den ρ1).bind fun y ρ2 => Out.lift (indexD x y) ρ2 else .no := rfl
-- statements
@[simp] theorem bl_nil : Bl.nil.den ρ = .nx ρ := rfl
@[simp] theorem bl_cons (s : Sm) (r : Bl) : (Bl.cons s r).den ρ = (s.den ρ).next r.den := rfl
@[simp] theorem sm_ret : (Sm.ret a).den ρ = So.after (a.den ρ) fun d ρ1 => .rt d ρ1 := rfl
@[simp] theorem sm_retF (f : Fx) : (Sm.retF f).den ρ = So.after (f.den ρ) fun ds ρ1 => .rf ds ρ1 := rfl
@[simp] theorem sm_retO : (Sm.retO i).den = Ev.retO i := rfl
@[simp] theorem sm_set : (Sm.set i a).den ρ = So.after (a.den ρ) fun d ρ1 => match nameD i d ρ1 with | some ρ2 => .nx ρ2 | none => .no := rfl
@[simp] theorem sm_asg (t : Tg) : (Sm.asg t a).den ρ = So.after (a.den ρ) fun d ρ1 => match t.den d ρ1 with | some ρ2 => .nx ρ2 | none => .no := rfl
@[simp] theorem sm_ifs (x y : Bl) : (Sm.ifs a x y).den ρ = So.after (a.tst ρ) fun t ρ1 => if t = true then x.den ρ1 else y.den ρ1 := rfl
@[simp] theorem sm_for (t : Tg) (r : Sr) (x : Bl) : (Sm.for_ t r x).den ρ = So.after (r.den ρ) fun ds ρ1 => forGo t.den x.den ds ρ1 := rfl
@[simp] theorem sm_own (f : Fx) : (Sm.own i f).den ρ = So.after (f.den ρ) (ownD i) := rfl
@[simp] theorem sm_frz (m : Sm) : (Sm.frz i m).den ρ = match frzD i ρ with | some ρ1 => m.den ρ1 | none => .no := rfl
@[simp] theorem sm_app : (Sm.app i a).den ρ = if isOwn ρ i = true then So.after (a.den ρ) (appD i) else .no := rfl
@[simp] theorem sm_parM (is : List Nat) (ms : Ms) : (Sm.parM is ms).den ρ = So.after (ms.den ρ) fun mds ρ1 => match putM is mds ρ1 with | some ρ2 => .nx ρ2 | none => .no := rfl
@[simp] theorem sm_stuck : Sm.stuck.den ρ = .no := rfl
@[simp] theorem ms_nil : Ms.nil.den ρ = .ok [] ρ := rfl
@[simp] theorem ms_v (r : Ms) : (Ms.v a r).den ρ = (a.den ρ).bind fun d ρ1 => (r.den ρ1).bind fun ds ρ2 => .ok (.v d :: ds) ρ2 := rfl
@[simp] theorem ms_f (f : Fx) (r : Ms) : (Ms.f f r).den ρ = (f.den ρ).bind fun d ρ1 => (r.den ρ1).bind fun ds ρ2 => .ok (.f d :: ds) ρ2 := rfl
end
end Ev
set_option Elab.async false
set_option maxRecDepth 100000
set_option maxHeartbeats 4000000
/-! EvW: plain facts about comprehensions and loops. -/
namespace Ev
open PySem PySem.Spec PyProof.Rows L2

theorem set_set (ρ : En) (i : Nat) (a b : Sl) : (ρ.set i a).set i b = ρ.set i b := by
  rw [List.set_set]
theorem at_set {ρ : En} {i : Nat} (h : i < ρ.length) (a : Sl) : (ρ.set i a)[i]? = some a := List.getElem?_set_self h
theorem wipe1 (ρ : En) (i : Nat) : wipeE ρ [i] = ρ.set i .n := rfl
theorem back1 {ρ1 ρ : En} {i : Nat} (h : i < ρ1.length) : backE ρ1 [i] ρ = ρ.set i (ρ1[i]) := by
  show ρ.set i (ρ1[i]?.getD .n) = _
  rw [List.getElem?_eq_getElem h]
  rfl
theorem nameD_wiped {ρ : En} {i : Nat} (h : i < ρ.length) (d : D) : nameD i d (ρ.set i .n) = some (ρ.set i (.v d)) := by
  unfold nameD
  rw [at_set h]
  show some ((ρ.set i .n).set i (.v d)) = _
  rw [set_set]
/-- one name, tests and element without effect -/
theorem lcGo1 {i : Nat} {cond : En → Out Bool} {elt : En → Out D} {p : D → Bool} {g : D → D} {ρ0 : En} (hi : i < ρ0.length) : ∀ {ds : List D} {s : Sl},
    (∀ d ∈ ds, cond (ρ0.set i (.v d)) = .ok (p d) (ρ0.set i (.v d))) → (∀ d ∈ ds, p d = true → elt (ρ0.set i (.v d)) = .ok (g d) (ρ0.set i (.v d))) → ∃ s', lcGo [i] (nameD i) cond elt ds (ρ0.set i s) = .ok ((ds.filter p).map g) (ρ0.set i s')
  | [], s, _, _ => ⟨s, rfl⟩
  | d :: ds, s, hc, he => by
    have e : nameD i d (wipeE (ρ0.set i s) [i]) = some (ρ0.set i (.v d)) := by
      rw [wipe1, nameD_wiped (by simpa using hi), set_set]
    obtain ⟨s', ih⟩ := lcGo1 hi (ds := ds) (s := .v d) (fun x hx => hc x (List.mem_cons_of_mem _ hx)) fun x hx => he x (List.mem_cons_of_mem _ hx)
    refine ⟨s', ?_⟩
    unfold lcGo
    rw [e]
    simp only [hc d List.mem_cons_self, bind_ok]
    cases hp : p d with
    | true =>
      rw [if_pos rfl, he d List.mem_cons_self hp]
      simp only [bind_ok, ih]
      rw [List.filter_cons, if_pos hp]
      rfl
    | false =>
      rw [if_neg Bool.false_ne_true, ih, List.filter_cons, if_neg (by rw [hp]; exact Bool.false_ne_true)]
theorem lc1 {src : En → Out (List D)} {i : Nat} {cond : En → Out Bool} {elt : En → Out D} {ρ ρ1 : En} {ds : List D} (p : D → Bool) (g : D → D) (h1 : src ρ = .ok ds ρ1) (hi : i < ρ1.length) (hno : noOwn ρ1 [i] = true) (hz : ds.length ≤ sizeLine)
    (hc : ∀ d ∈ ds, cond (ρ1.set i (.v d)) = .ok (p d) (ρ1.set i (.v d))) (he : ∀ d ∈ ds, p d = true → elt (ρ1.set i (.v d)) = .ok (g d) (ρ1.set i (.v d))) : lcD src [i] (nameD i) cond elt ρ = .ok ((ds.filter p).map g) ρ1 := by
  unfold lcD
  rw [h1]
  simp only [bind_ok, hno, if_true]
  obtain ⟨s', q⟩ := lcGo1 (p := p) (g := g) hi (ds := ds) (s := ρ1[i]) hc he
  have e0 : ρ1.set i ρ1[i] = ρ1 := List.set_getElem_self hi
  rw [e0] at q
  rw [q]
  show (if ((ds.filter p).map g).length ≤ sizeLine then Out.ok ((ds.filter p).map g) (backE ρ1 [i] (ρ1.set i s')) else .no) = _
  rw [if_pos (by rw [List.length_map]; exact Nat.le_trans (List.length_filter_le _ _) hz), back1 hi, set_set, e0]
/-- what is found when the tests and the element may change the rest -/
inductive Sel (Rn : D → Prop) (Ry : D → D → Prop) : List D → List D → Prop
  | nil : Sel Rn Ry [] []
  | skip {d : D} {ds ys : List D} : Rn d → Sel Rn Ry ds ys → Sel Rn Ry (d :: ds) ys
  | take {d y : D} {ds ys : List D} : Ry d y → Sel Rn Ry ds ys → Sel Rn Ry (d :: ds) (y :: ys)
theorem Sel.length {Rn : D → Prop} {Ry : D → D → Prop} {ds ys : List D} (h : Sel Rn Ry ds ys) : ys.length ≤ ds.length := by
  induction h with
  | nil => exact Nat.le_refl _
  | skip _ _ ih => exact Nat.le_succ_of_le ih
  | take _ _ ih => exact Nat.succ_le_succ ih
theorem lcGoE {i : Nat} {cond : En → Out Bool} {elt : En → Out D} {I : En → Prop} {Rn : D → Prop} {Ry : D → D → Prop} (hl : ∀ ρ, I ρ → i < ρ.length) : ∀ {ds : List D} {ρ : En}, I ρ →
    (∀ d ∈ ds, ∀ ρ, I ρ → (∃ ρ', cond (ρ.set i (.v d)) = .ok false ρ' ∧ I ρ' ∧ Rn d) ∨ ∃ ρ' y ρ'', cond (ρ.set i (.v d)) = .ok true ρ' ∧ elt ρ' = .ok y ρ'' ∧ I ρ'' ∧ Ry d y) →
    ∃ ys ρ', lcGo [i] (nameD i) cond elt ds ρ = .ok ys ρ' ∧ I ρ' ∧ Sel Rn Ry ds ys
  | [], ρ, h, _ => ⟨[], ρ, rfl, h, .nil⟩
  | d :: ds, ρ, h, st => by
    have e : nameD i d (wipeE ρ [i]) = some (ρ.set i (.v d)) := by rw [wipe1, nameD_wiped (hl ρ h)]
    rcases st d List.mem_cons_self ρ h with ⟨ρ', h1, h2, h3⟩ | ⟨ρ', y, ρ'', h1, h2, h3, h4⟩
    · obtain ⟨ys, ρ2, q1, q2, q3⟩ := lcGoE hl (ds := ds) h2 fun x hx => st x (List.mem_cons_of_mem _ hx)
      refine ⟨ys, ρ2, ?_, q2, .skip h3 q3⟩
      unfold lcGo
      rw [e]
      simp only [h1, bind_ok]
      rw [if_neg Bool.false_ne_true, q1]
    · obtain ⟨ys, ρ2, q1, q2, q3⟩ := lcGoE hl (ds := ds) h3 fun x hx => st x (List.mem_cons_of_mem _ hx)
      refine ⟨y :: ys, ρ2, ?_, q2, .take h4 q3⟩
      unfold lcGo
      rw [e]
      simp only [h1, bind_ok, if_true, h2, q1]
theorem lcE {src : En → Out (List D)} {i : Nat} {cond : En → Out Bool} {elt : En → Out D} {ρ ρ1 : En} {ds : List D} {I : En → Prop} (Rn : D → Prop) (Ry : D → D → Prop) (h1 : src ρ = .ok ds ρ1) (hI : I ρ1) (hl : ∀ ρ, I ρ → i < ρ.length) (hno : noOwn ρ1 [i] = true) (hz : ds.length ≤ sizeLine)
    (st : ∀ d ∈ ds, ∀ ρ, I ρ → (∃ ρ', cond (ρ.set i (.v d)) = .ok false ρ' ∧ I ρ' ∧ Rn d) ∨ ∃ ρ' y ρ'', cond (ρ.set i (.v d)) = .ok true ρ' ∧ elt ρ' = .ok y ρ'' ∧ I ρ'' ∧ Ry d y) :
    ∃ ys ρ', lcD src [i] (nameD i) cond elt ρ = .ok ys (ρ'.set i (ρ1[i]?.getD .n)) ∧ I ρ' ∧ Sel Rn Ry ds ys := by
  obtain ⟨ys, ρ', q1, q2, q3⟩ := lcGoE (I := I) hl hI st
  refine ⟨ys, ρ', ?_, q2, q3⟩
  unfold lcD
  rw [h1]
  simp only [bind_ok, hno, if_true]
  rw [q1]
  show (if ys.length ≤ sizeLine then Out.ok ys (backE ρ1 [i] ρ') else .no) = _
  rw [if_pos (Nat.le_trans q3.length hz)]
  rfl
/-- a for, by an invariant of the items behind and the env; the body goes on at each turn -/
theorem forI {tg : D → En → Option En} {body : En → So} {I : List D → En → Prop} : ∀ {ds : List D} {ρ : En}, I ds ρ →
    (∀ d r ρ, I (d :: r) ρ → ∃ ρ1, tg d ρ = some ρ1 ∧ ((∃ ρ2, body ρ1 = .nx ρ2 ∧ I r ρ2) ∨ ∃ ρ2, body ρ1 = .ct ρ2 ∧ I r ρ2)) → ∃ ρ', forGo tg body ds ρ = .nx ρ' ∧ I [] ρ'
  | [], ρ, h, _ => ⟨ρ, rfl, h⟩
  | d :: ds, ρ, h, st => by
    obtain ⟨ρ1, h1, h2⟩ := st d ds ρ h
    unfold forGo
    rw [h1]
    rcases h2 with ⟨ρ2, h2, h3⟩ | ⟨ρ2, h2, h3⟩
    · obtain ⟨ρ', q1, q2⟩ := forI h3 st
      exact ⟨ρ', by simp only [h2]; exact q1, q2⟩
    · obtain ⟨ρ', q1, q2⟩ := forI h3 st
      exact ⟨ρ', by simp only [h2]; exact q1, q2⟩
/-- .. where a turn may also return -/
theorem forR {tg : D → En → Option En} {body : En → So} {I : List D → En → Prop} {R : So → Prop} : ∀ {ds : List D} {ρ : En}, I ds ρ →
    (∀ d r ρ, I (d :: r) ρ → ∃ ρ1, tg d ρ = some ρ1 ∧ ((∃ ρ2, body ρ1 = .nx ρ2 ∧ I r ρ2) ∨ ∃ v ρ2, body ρ1 = .rt v ρ2 ∧ R (.rt v ρ2))) → (∃ ρ', forGo tg body ds ρ = .nx ρ' ∧ I [] ρ') ∨ ∃ v ρ', forGo tg body ds ρ = .rt v ρ' ∧ R (.rt v ρ')
  | [], ρ, h, _ => .inl ⟨ρ, rfl, h⟩
  | d :: ds, ρ, h, st => by
    obtain ⟨ρ1, h1, h2⟩ := st d ds ρ h
    unfold forGo
    rw [h1]
    rcases h2 with ⟨ρ2, h2, h3⟩ | ⟨v, ρ2, h2, h3⟩
    · simp only [h2]
      exact forR h3 st
    · exact .inr ⟨v, ρ2, by simp only [h2], h3⟩
theorem callK_ok {F : FSem} {own : List (Nat × Nat)} {ds ds' os : List D} {d : D} {ρ ρ' : En} (h1 : fill own ρ ds = some ds') (h2 : F.den ds' = .ok d os) (h3 : okF F d = true) (h4 : put own os ρ = some ρ') : callK F own ds ρ = .ok d ρ' := by
  unfold callK
  rw [h1]
  simp only [h2, h3, if_true, h4]
theorem noOwn1 {ρ : En} {i : Nat} (hn : ∀ d, ρ[i]? ≠ some (.o d)) : noOwn ρ [i] = true := by
  have h : isOwn ρ i = false := by
    cases h : isOwn ρ i with
    | false => rfl
    | true =>
      unfold isOwn at h
      split at h
      · rename_i d e
        exact absurd e (hn d)
      · cases h
  unfold noOwn
  rw [List.all_cons, h]
  rfl
end Ev
set_option Elab.async false
set_option maxRecDepth 100000
set_option maxHeartbeats 4000000
/-! EvX: plain facts about equality and membership of values. -/
namespace Ev
open PySem PySem.Spec PyProof.Rows L2

theorem eqD_int (i j : Int) : eqD (.int i) (.int j) = some (decide (i = j)) := by
  unfold eqD
  simp [D.data, D.toP, PyData.eqv, PyData.depth]
  rfl
theorem eqD_str (i j : Str) : eqD (.str i) (.str j) = some (decide (i = j)) := by
  unfold eqD
  simp [D.data, D.toP, PyData.eqv, PyData.depth]
  by_cases h : i = j <;> simp [h]
/-- is it this text -/
def isStr (z : Str) : D → Bool
  | .str s => decide (s = z)
  | _ => false
def flat : D → Bool
  | .non => true
  | .bl _ => true
  | .int _ => true
  | .str _ => true
  | _ => false
theorem flat_data {d : D} (h : flat d = true) : d.data = true ∧ d.toP.depth = 0 := by
  cases d <;> first | exact ⟨rfl, by simp [D.toP, PyData.depth]⟩ | cases h
theorem flats_data : ∀ {ds : List D}, ds.all flat = true → Ds.data ds = true ∧ PyData.depthAll (Ds.toP ds) = 0
  | [], _ => ⟨rfl, rfl⟩
  | d :: ds, h => by
    rw [List.all_cons, Bool.and_eq_true] at h
    obtain ⟨h1, h2⟩ := flat_data h.1
    obtain ⟨h3, h4⟩ := flats_data h.2
    exact ⟨by rw [Ds.data, h1, h3]; rfl, by rw [Ds.toP, PyData.depthAll, h2, h4]; rfl⟩
theorem strs_flat (zs : List Str) : (zs.map D.str).all flat = true := by
  rw [List.all_map]
  exact List.all_eq_true.mpr fun _ _ => rfl
theorem eqv_str {y : D} (h : y.data = true) (z : Str) : PyData.eqv y.toP (.str z) = isStr z y := by
  cases y with
  | str s =>
    simp only [D.toP, PyData.eqv, isStr]
    by_cases e : s = z <;> simp [e]
  | dic _ => cases h
  | clo _ _ => cases h
  | obj _ _ => cases h
  | scr _ => cases h
  | _ => simp [D.toP, PyData.eqv, isStr]
theorem data_mem {d : D} : ∀ {ds : List D}, Ds.data ds = true → d ∈ ds → d.data = true
  | [], _, h => nomatch h
  | e :: ds, h, hm => by
    rw [Ds.data, Bool.and_eq_true] at h
    rcases List.mem_cons.mp hm with rfl | hm
    · exact h.1
    · exact data_mem h.2 hm
/-- a text in a row of values -/
theorem inDs_str {xs : List D} (z : Str) (h : Ds.data xs = true) : inDs (.str z) xs = some (xs.any (isStr z)) := by
  unfold inDs
  rw [if_pos (by simp [D.data, h, D.toP, PyData.depth])]
  congr 1
  refine Bool.eq_iff_iff.mpr ?_
  rw [List.any_eq_true, List.any_eq_true]
  constructor
  · rintro ⟨y, hy, e⟩
    refine ⟨y, hy, ?_⟩
    rw [← eqv_str (data_mem h hy) z]
    exact e
  · rintro ⟨y, hy, e⟩
    refine ⟨y, hy, ?_⟩
    show PyData.eqv y.toP (.str z) = true
    rw [eqv_str (data_mem h hy) z]
    exact e
theorem any_isStr (z : Str) (zs : List Str) : (zs.map D.str).any (isStr z) = decide (z ∈ zs) := by
  refine Bool.eq_iff_iff.mpr ?_
  rw [List.any_eq_true, decide_eq_true_eq]
  constructor
  · rintro ⟨y, hy, e⟩
    obtain ⟨s, hs, rfl⟩ := List.mem_map.mp hy
    have e : s = z := of_decide_eq_true e
    rw [← e]
    exact hs
  · intro h
    exact ⟨.str z, List.mem_map.mpr ⟨z, h, rfl⟩, decide_eq_true rfl⟩
theorem eqvAll_strs : ∀ (zs : List Str) {xs : List D}, Ds.data xs = true → PyData.eqvAll (Ds.toP (zs.map D.str)) (Ds.toP xs) = decide (strsOf xs = some zs)
  | [], [], _ => by simp [Ds.toP, PyData.eqvAll, strsOf]
  | [], x :: xs, _ => by
    have : strsOf (x :: xs) ≠ some [] := by
      cases x <;> simp [strsOf]
    simp [Ds.toP, PyData.eqvAll, this]
  | z :: zs, [], _ => by simp [Ds.toP, PyData.eqvAll, strsOf]
  | z :: zs, x :: xs, h => by
    rw [Ds.data, Bool.and_eq_true] at h
    have ih := eqvAll_strs zs h.2
    rw [List.map_cons, Ds.toP, Ds.toP, PyData.eqvAll, ih]
    cases x with
    | str s =>
      have : PyData.eqv (D.toP (.str z)) (D.toP (.str s)) = decide (z = s) := by
        simp only [D.toP, PyData.eqv]
        by_cases e : z = s <;> simp [e]
      rw [this]
      simp only [strsOf, Option.map_eq_some_iff, List.cons.injEq]
      by_cases e : z = s
      · subst e
        simp
      · simp [e]
        exact fun _ w => e w.symm
    | dic _ => cases h.1
    | clo _ _ => cases h.1
    | obj _ _ => cases h.1
    | scr _ => cases h.1
    | _ => simp [D.toP, PyData.eqv, strsOf]
theorem eqD_strs (zs : List Str) {xs : List D} (h : xs.all flat = true) : eqD (.lst (zs.map .str)) (.lst xs) = some (decide (strsOf xs = some zs)) := by
  obtain ⟨h1, h2⟩ := flats_data h
  obtain ⟨h3, h4⟩ := flats_data (strs_flat zs)
  unfold eqD
  rw [if_pos (by simp [D.data, h1, h3, D.toP, PyData.depth, h2, h4])]
  congr 1
  simp only [D.toP, PyData.eqv]
  exact eqvAll_strs zs h1
end Ev
set_option Elab.async false
set_option maxRecDepth 100000
set_option maxHeartbeats 4000000
/-! EvY: weakest preconditions of denotations; simp steps through them. -/
namespace Ev
open PySem PySem.Spec PyProof.Rows L2

/-- what is wanted behind a statement -/
structure Pq where
  nx : En → Prop
  bk : En → Prop
  ct : En → Prop
  rt : D → En → Prop
  rf : List D → En → Prop
  er : Xn → En → Prop
def So.Post (s : So) (P : Pq) : Prop := match s with
  | .no => False
  | .nx ρ => P.nx ρ
  | .bk ρ => P.bk ρ
  | .ct ρ => P.ct ρ
  | .rt d ρ => P.rt d ρ
  | .rf ds ρ => P.rf ds ρ
  | .er x ρ => P.er x ρ
def FO.Post (o : FO) (Q : D → List D → Prop) (R : Xn → List D → Prop) : Prop := match o with
  | .no => False
  | .ok d os => Q d os
  | .er x os => R x os
def OP {α : Type} (o : Option α) (k : α → Prop) : Prop := match o with
  | some a => k a
  | none => False
/-- it comes back -/
abbrev FO.Ok (o : FO) (Q : D → List D → Prop) : Prop := o.Post Q fun _ _ => False
/-- keeps simp away -/
inductive Lz {β : Sort _} (x : β) : Type
  | mk
def Out.Pz {α : Type} (o : Out α) (Q : α → En → Prop) (R : Xn → En → Prop) (_ : Lz (Q, R)) : Prop := o.Post Q R
def So.Pz (s : So) (P : Pq) (_ : Lz P) : Prop := s.Post P
def FO.Pz (o : FO) (Q : D → List D → Prop) (R : Xn → List D → Prop) (_ : Lz (Q, R)) : Prop := o.Post Q R
def OPz {α : Type} (o : Option α) (k : α → Prop) (_ : Lz k) : Prop := OP o k
/-- .. with another end of a plain way -/
def Pq.wn (P : Pq) (f : En → Prop) : Pq := ⟨f, P.bk, P.ct, P.rt, P.rf, P.er⟩
/-- what is wanted behind a turn -/
def Pq.lp (P : Pq) (f : En → Prop) : Pq := ⟨f, P.nx, f, P.rt, P.rf, P.er⟩
section
variable {P : Pq} {f : En → Prop}
theorem wn_nx : (P.wn f).nx = f := id rfl
theorem wn_bk : (P.wn f).bk = P.bk := id rfl
theorem wn_ct : (P.wn f).ct = P.ct := id rfl
theorem wn_rt : (P.wn f).rt = P.rt := id rfl
theorem wn_rf : (P.wn f).rf = P.rf := id rfl
theorem wn_er : (P.wn f).er = P.er := id rfl
theorem lp_nx : (P.lp f).nx = f := id rfl
theorem lp_bk : (P.lp f).bk = P.nx := id rfl
theorem lp_ct : (P.lp f).ct = f := id rfl
theorem lp_rt : (P.lp f).rt = P.rt := id rfl
theorem lp_rf : (P.lp f).rf = P.rf := id rfl
theorem lp_er : (P.lp f).er = P.er := id rfl
end
theorem if_F {c p : Prop} [Decidable c] : (if c then p else False) = (c ∧ p) := by
  by_cases h : c <;> simp [h]
/-! slots -/
def Sl.isO : Sl → Bool
  | .o _ => true
  | _ => false
def slV (ρ : En) (i : Nat) : Option D := match ρ[i]? with
  | some (.v d) => some d
  | _ => none
def slO (ρ : En) (i : Nat) : Option D := match ρ[i]? with
  | some (.o d) => some d
  | _ => none
def slN (ρ : En) (i : Nat) : Bool := match ρ[i]? with
  | some s => !s.isO
  | none => false
section
variable {d : D} {s : Sl} {r : En} {i : Nat}
theorem isO_n : Sl.n.isO = false := rfl
theorem isO_v : (Sl.v d).isO = false := rfl
theorem isO_o : (Sl.o d).isO = true := rfl
theorem slV_z : slV (.v d :: r) 0 = some d := rfl
theorem slV_s : slV (s :: r) (i + 1) = slV r i := rfl
theorem slO_z : slO (.o d :: r) 0 = some d := rfl
theorem slO_s : slO (s :: r) (i + 1) = slO r i := rfl
theorem slN_z : slN (s :: r) 0 = !s.isO := rfl
theorem slN_s : slN (s :: r) (i + 1) = slN r i := rfl
theorem isOwn_z : isOwn (s :: r) 0 = s.isO := by cases s <;> rfl
theorem isOwn_s : isOwn (s :: r) (i + 1) = isOwn r i := rfl
theorem lstAt_sl (ρ : En) : lstAt ρ i = (slO ρ i).bind fun d => match d with | .lst ds => some ds | _ => none := by
  unfold lstAt slO
  cases ρ[i]? with
  | none => rfl
  | some s =>
    cases s with
    | o d => cases d <;> rfl
    | _ => rfl
theorem nameD_sl (ρ : En) : nameD i d ρ = if slN ρ i = true then some (ρ.set i (.v d)) else none := by
  unfold nameD slN
  cases ρ[i]? with
  | none => rfl
  | some s => cases s <;> rfl
theorem frzD_sl (ρ : En) : frzD i ρ = (slO ρ i).map fun d => ρ.set i (.v d) := by
  unfold frzD slO
  cases ρ[i]? with
  | none => rfl
  | some s => cases s <;> rfl
theorem fill_nil (ρ : En) (ds : List D) : fill [] ρ ds = some ds := rfl
theorem fill_cons (p j : Nat) (o : List (Nat × Nat)) (ρ : En) (ds : List D) : fill ((p, j) :: o) ρ ds = (slO ρ j).bind fun d => fill o ρ (ds.set p d) := by
  show (match ρ[j]? with | some (.o d) => fill o ρ (ds.set p d) | _ => none) = _
  unfold slO
  cases ρ[j]? with
  | none => rfl
  | some s => cases s <;> rfl
theorem put_nil (ρ : En) : put [] [] ρ = some ρ := rfl
theorem put_cons (p j : Nat) (o : List (Nat × Nat)) (d : D) (os : List D) (ρ : En) : put ((p, j) :: o) (d :: os) ρ = put o os (ρ.set j (.o d)) := rfl
theorem outsE_nil (ρ : En) : outsE [] ρ = some [] := rfl
theorem outsE_cons (is : List Nat) (ρ : En) : outsE (i :: is) ρ = (slO ρ i).bind fun d => (outsE is ρ).map (d :: ·) := by
  show (match ρ[i]? with | some (.o d) => (outsE is ρ).map (d :: ·) | _ => none) = _
  unfold slO
  cases ρ[i]? with
  | none => rfl
  | some s => cases s <;> rfl
end
section
variable {α β : Type} {Q Q' : α → En → Prop} {R R' : Xn → En → Prop} {P : Pq} {ρ : En}
theorem pz_ok (a : α) {z : Lz (Q, R)} : (Out.ok a ρ).Pz Q R z = Q a ρ := id rfl
theorem pz_er (x : Xn) {z : Lz (Q, R)} : (Out.er x ρ : Out α).Pz Q R z = R x ρ := id rfl
theorem pz_no {z : Lz (Q, R)} : (Out.no : Out α).Pz Q R z = False := id rfl
theorem pz_bind {Q : β → En → Prop} {z : Lz (Q, R)} (o : Out α) (k : α → En → Out β) : (o.bind k).Pz Q R z = o.Pz (fun a ρ => (k a ρ).Pz Q R .mk) R .mk := by cases o <;> rfl
theorem pz_ext {Q Q' : α → En → Prop} {o : Out α} {z : Lz (Q, R)} {z' : Lz (Q', R)} (h : ∀ a ρ, Q a ρ = Q' a ρ) : o.Pz Q R z = o.Pz Q' R z' := by
  have e : Q = Q' := funext fun a => funext fun ρ => h a ρ
  subst e
  rfl
theorem pz_ite {c : Prop} [Decidable c] (a b : Out α) {z : Lz (Q, R)} : (if c then a else b).Pz Q R z = if c then a.Pz Q R .mk else b.Pz Q R .mk := by cases z; split <;> rfl
theorem sz_ite {c : Prop} [Decidable c] (a b : So) {z : Lz P} : (if c then a else b).Pz P z = if c then a.Pz P .mk else b.Pz P .mk := by cases z; split <;> rfl
theorem fz_ite {c : Prop} [Decidable c] {Q : D → List D → Prop} {R : Xn → List D → Prop} (a b : FO) {z : Lz (Q, R)} : (if c then a else b).Pz Q R z = if c then a.Pz Q R .mk else b.Pz Q R .mk := by cases z; split <;> rfl
theorem sz_nx {z : Lz P} : (So.nx ρ).Pz P z = P.nx ρ := id rfl
theorem sz_bk {z : Lz P} : (So.bk ρ).Pz P z = P.bk ρ := id rfl
theorem sz_ct {z : Lz P} : (So.ct ρ).Pz P z = P.ct ρ := id rfl
theorem sz_rt (d : D) {z : Lz P} : (So.rt d ρ).Pz P z = P.rt d ρ := id rfl
theorem sz_rf (d : List D) {z : Lz P} : (So.rf d ρ).Pz P z = P.rf d ρ := id rfl
theorem sz_er (x : Xn) {z : Lz P} : (So.er x ρ).Pz P z = P.er x ρ := id rfl
theorem sz_no {z : Lz P} : So.no.Pz P z = False := id rfl
theorem sz_after (o : Out α) (k : α → En → So) {z : Lz P} : (So.after o k).Pz P z = o.Pz (fun a ρ => (k a ρ).Pz P .mk) P.er .mk := by cases o <;> rfl
theorem sz_next (s : So) (k : En → So) {z : Lz P} : (s.next k).Pz P z = s.Pz (P.wn fun ρ => (k ρ).Pz P .mk) .mk := by cases s <;> rfl
theorem sz_match (o : Option En) {z : Lz P} : So.Pz (match o with | some ρ2 => .nx ρ2 | none => .no) P z = OPz o P.nx .mk := by cases o <;> rfl
theorem sz_match2 (o : Option En) (k : En → So) {z : Lz P} : So.Pz (match o with | some ρ2 => k ρ2 | none => .no) P z = OPz o (fun ρ2 => (k ρ2).Pz P .mk) .mk := by cases o <;> rfl
theorem fz_ok {Q : D → List D → Prop} {R : Xn → List D → Prop} (d : D) (os : List D) {z : Lz (Q, R)} : (FO.ok d os).Pz Q R z = Q d os := id rfl
theorem fz_er {Q : D → List D → Prop} {R : Xn → List D → Prop} (x : Xn) (os : List D) {z : Lz (Q, R)} : (FO.er x os).Pz Q R z = R x os := id rfl
theorem fz_no {Q : D → List D → Prop} {R : Xn → List D → Prop} {z : Lz (Q, R)} : FO.no.Pz Q R z = False := id rfl
theorem oz_some (a : α) {k : α → Prop} {z : Lz k} : OPz (some a) k z = k a := id rfl
theorem oz_none {k : α → Prop} {z : Lz k} : OPz none k z = False := id rfl
theorem oz_if {c : Prop} [Decidable c] (a : Option α) {k : α → Prop} {z : Lz k} : OPz (if c then a else none) k z = (c ∧ OPz a k .mk) := by
  cases z
  by_cases h : c <;> simp [h, OPz, OP]
theorem oz_ite {c : Prop} [Decidable c] (a b : Option α) {k : α → Prop} {z : Lz k} : OPz (if c then a else b) k z = if c then OPz a k .mk else OPz b k .mk := by cases z; split <;> rfl
theorem oz_map (f : α → β) (o : Option α) {k : β → Prop} {z : Lz k} : OPz (o.map f) k z = OPz o (fun a => k (f a)) .mk := by cases o <;> rfl
theorem oz_bind (f : α → Option β) (o : Option α) {k : β → Prop} {z : Lz k} : OPz (o.bind f) k z = OPz o (fun a => OPz (f a) k .mk) .mk := by cases o <;> rfl
theorem pz_lift (o : Option α) {z : Lz (Q, R)} : (Out.lift o ρ).Pz Q R z = OPz o (fun a => Q a ρ) .mk := by cases o <;> rfl
theorem pz_var {i : Nat} {Q : D → En → Prop} {z : Lz (Q, R)} : ((Ex.var i).den ρ).Pz Q R z = OPz (slV ρ i) (fun d => Q d ρ) .mk := by
  show (dVar i ρ).Post Q R = _
  unfold dVar slV
  cases ρ[i]? with
  | none => rfl
  | some s => cases s <;> rfl
theorem pz_dvar {i : Nat} {Q : D → En → Prop} {z : Lz (Q, R)} : (dVar i ρ).Pz Q R z = OPz (slV ρ i) (fun d => Q d ρ) .mk := pz_var (z := .mk)
theorem pz_dcon {d : D} {Q : D → En → Prop} {z : Lz (Q, R)} : (dCon d ρ).Pz Q R z = Q d ρ := id rfl
theorem pz_oidxD {i : Nat} {a : Ex} {Q : D → En → Prop} {z : Lz (Q, R)} : (oidxD i a ρ).Pz Q R z = (isOwn ρ i = true ∧ (a.den ρ).Pz (fun d ρ1 => OPz (lstAt ρ1 i) (fun ds => OPz (match d with | .int j => atI ds j | _ => none) (fun x => Q x ρ1) .mk) .mk) R .mk) := by
  cases z
  unfold oidxD
  by_cases h : isOwn ρ i = true
  · simp only [h, if_true, true_and]
    rw [pz_bind]
    refine pz_ext fun d ρ1 => ?_
    rw [pz_lift]
    cases lstAt ρ1 i with
    | none => rfl
    | some ds => cases d <;> rfl
  · simp [h, pz_no]
theorem pz_olenD {i : Nat} {Q : D → En → Prop} {z : Lz (Q, R)} : (olenD i ρ).Pz Q R z = OPz (lstAt ρ i) (fun ds => Q (.int ds.length) ρ) .mk := by
  unfold olenD
  rw [pz_lift, oz_map]
theorem pz_callK {F : FSem} {own : List (Nat × Nat)} {ds : List D} {Q : D → En → Prop} {z : Lz (Q, R)} : (callK F own ds ρ).Pz Q R z = OPz (fill own ρ ds) (fun ds' => (F.den ds').Pz (fun d os => okF F d = true ∧ OPz (put own os ρ) (fun ρ' => Q d ρ') .mk) (fun x os => OPz (put own os ρ) (fun ρ' => R x ρ') .mk) .mk) .mk := by
  cases z
  unfold callK
  cases fill own ρ ds with
  | none => rfl
  | some ds' =>
    show _ = (F.den ds').Post _ _
    cases hd : F.den ds' with
    | no => simp only [hd]; rfl
    | ok d os =>
      simp only [hd]
      by_cases h : okF F d = true
      · simp only [h, if_true]
        cases hp : put own os ρ <;> simp [FO.Post, h, OPz, OP, Out.Pz, Out.Post, hp]
      · simp [FO.Post, h, Out.Pz, Out.Post]
    | er x os =>
      simp only [hd]
      cases hp : put own os ρ <;> simp [FO.Post, OPz, OP, Out.Pz, Out.Post, hp]
theorem pz_callfK {F : FSem} {ds : List D} {Q : D → En → Prop} {z : Lz (Q, R)} : (callfK F ds ρ).Pz Q R z = (F.den [.lst ds]).Pz (fun d _ => Q d ρ) (fun x _ => R x ρ) .mk := by
  cases z
  unfold callfK
  cases F.den [.lst ds] <;> rfl
theorem pz_callF {F : FSem} {ar : Ar} {Q : List D → En → Prop} {z : Lz (Q, R)} : (callF F ar ρ).Pz Q R z = (callD F ar ρ).Pz (fun d ρ1 => OPz (match d with | .lst ds => some ds | _ => none) (fun ds => F.fresh = true ∧ Q ds ρ1) .mk) R .mk := by
  cases z
  unfold callF
  rw [pz_bind]
  refine pz_ext fun d ρ1 => ?_
  cases d with
  | lst ds => cases F.fresh <;> simp [Out.Pz, Out.Post, OPz, OP]
  | _ => rfl
theorem pz_callD {F : FSem} {ar : Ar} {Q : D → En → Prop} {z : Lz (Q, R)} : (callD F ar ρ).Pz Q R z = (ar.den ρ).Pz (fun ds ρ1 => ds.length = F.ar ∧ (callK F ar.own ds ρ1).Pz Q R .mk) R .mk := by
  cases z
  unfold callD
  rw [pz_bind]
  refine pz_ext fun ds ρ1 => ?_
  by_cases h : ds.length = F.ar <;> simp [h, Out.Pz, Out.Post]
theorem pz_kwD {F : FSem} {pm : List Nat} {kx : Kx} {Q : D → En → Prop} {z : Lz (Q, R)} : (kwD F pm kx ρ).Pz Q R z = (kx.den ρ).Pz (fun ds ρ1 => (ds.length = kx.ks.length ∧ pm.length = F.ar ∧ pm.all (fun i => decide (i < ds.length)) = true) ∧ (callK F [] (pm.map fun i => ds.getD i .non) ρ1).Pz Q R .mk) R .mk := by
  cases z
  unfold kwD
  rw [pz_bind]
  refine pz_ext fun ds ρ1 => ?_
  split
  · rename_i h
    exact propext ⟨fun q => ⟨h, q⟩, fun q => q.2⟩
  · rename_i h
    exact propext ⟨fun q => q.elim, fun q => h q.1⟩
theorem pz_callvD {tb : List (Nat × FSem)} {i : Nat} {as : As} {Q : D → En → Prop} {z : Lz (Q, R)} : (callvD tb i as ρ).Pz Q R z = OPz (slV ρ i) (fun d => OPz (match d with | .clo k [] => tb.lookup k | _ => none) (fun F => (as.den ρ).Pz (fun ds ρ1 => (ds.length = F.ar ∧ F.io = []) ∧ (callK F [] ds ρ1).Pz Q R .mk) R .mk) .mk) .mk := by
  cases z
  have e : cloOf tb ρ i = (slV ρ i).bind fun d => match d with | .clo k [] => tb.lookup k | _ => none := by
    unfold cloOf slV
    cases ρ[i]? with
    | none => rfl
    | some s =>
      cases s with
      | v d =>
        cases d with
        | clo k cs => cases cs <;> rfl
        | _ => rfl
      | _ => rfl
  unfold callvD
  rw [← oz_bind (z := .mk), ← e]
  cases cloOf tb ρ i with
  | none => rfl
  | some F =>
    show Out.Pz _ Q R .mk = Out.Pz _ _ R .mk
    rw [pz_bind]
    refine pz_ext fun ds ρ1 => ?_
    split
    · rename_i h
      exact propext ⟨fun q => ⟨h, q⟩, fun q => q.2⟩
    · rename_i h
      exact propext ⟨fun q => q.elim, fun q => h q.1⟩
theorem pz_dRepr {neg : Bool} {a b : Ex} {Q : Bool → En → Prop} {z : Lz (Q, R)} : (dRepr neg a b ρ).Pz Q R z = (a.den ρ).Pz (fun x ρ1 => OPz (shownD x) (fun u => (b.den ρ1).Pz (fun y ρ2 => OPz (shownD y) (fun w => Q (if neg then !decide (u = w) else decide (u = w)) ρ2) .mk) R .mk) .mk) R .mk := by
  cases z
  unfold dRepr
  rw [pz_bind]
  refine pz_ext fun x ρ1 => ?_
  rw [pz_bind, pz_lift]
  cases shownD x with
  | none => rfl
  | some u =>
    show Out.Pz ((b.den ρ1).bind _) Q R .mk = Out.Pz _ _ R .mk
    rw [pz_bind]
    refine pz_ext fun y ρ2 => ?_
    rw [pz_bind, pz_lift]
    cases shownD y <;> rfl
theorem sz_ownD {i : Nat} {ds : List D} {z : Lz P} : (ownD i ds ρ).Pz P z = P.nx (ρ.set i (.o (.lst ds))) := id rfl
theorem sz_appD {i : Nat} {d : D} {z : Lz P} : (appD i d ρ).Pz P z = OPz (lstAt ρ i) (fun ds => ds.length < sizeLine ∧ P.nx (ρ.set i (.o (.lst (ds ++ [d]))))) .mk := by
  cases z
  unfold appD
  cases lstAt ρ i with
  | none => rfl
  | some ds => by_cases h : ds.length < sizeLine <;> simp [h, So.Pz, So.Post, OPz, OP]
theorem sz_retO {i : Nat} {z : Lz P} : (Ev.retO i ρ).Pz P z = OPz (lstAt ρ i) (fun ds => P.rf ds ρ) .mk := by
  cases z
  unfold Ev.retO lstAt
  cases ρ[i]? with
  | none => rfl
  | some s =>
    cases s with
    | o d => cases d <;> rfl
    | _ => rfl
theorem sz_expr (a : Ex) {z : Lz P} : So.Pz ((Sm.expr a).den ρ) P z = (a.den ρ).Pz (fun _ ρ1 => P.nx ρ1) P.er .mk := by
  cases z
  show So.Pz (So.after (a.den ρ) fun _ ρ1 => .nx ρ1) P .mk = _
  rw [sz_after]
  rfl
theorem pz_kxnil {Q : List D → En → Prop} {z : Lz (Q, R)} : (Kx.nil.den ρ).Pz Q R z = Q [] ρ := id rfl
theorem pz_kxcons {y : Str} {e : Ex} {r : Kx} {Q : List D → En → Prop} {z : Lz (Q, R)} : ((Kx.cons y e r).den ρ).Pz Q R z = (e.den ρ).Pz (fun d ρ1 => (r.den ρ1).Pz (fun ds ρ2 => Q (d :: ds) ρ2) R .mk) R .mk := by
  cases z
  show Out.Pz ((e.den ρ).bind fun d ρ1 => (r.den ρ1).bind fun ds ρ2 => .ok (d :: ds) ρ2) Q R .mk = _
  rw [pz_bind]
  refine pz_ext fun d ρ1 => ?_
  rw [pz_bind]
  rfl
theorem kx_ks {y : Str} {e : Ex} {r : Kx} : (Kx.cons y e r).ks = y :: r.ks := rfl
theorem kx_ks0 : Kx.nil.ks = [] := rfl
end
section
variable (a b c : Ex) (as : As) (i j : Nat) (ρ : En)
theorem w_den_int (n : Int) {Q : _ → En → Prop} {R : Xn → En → Prop} {z : Lz (Q, R)} : Out.Pz (((Ex.int n).den) ρ) Q R z = Out.Pz ((dCon (.int n)) ρ) Q R .mk := by cases z; exact id rfl
theorem w_den_str (s : Str) {Q : _ → En → Prop} {R : Xn → En → Prop} {z : Lz (Q, R)} : Out.Pz (((Ex.str s).den) ρ) Q R z = Out.Pz ((dCon (.str s)) ρ) Q R .mk := by cases z; exact id rfl
theorem w_den_bl (x : Bool) {Q : _ → En → Prop} {R : Xn → En → Prop} {z : Lz (Q, R)} : Out.Pz (((Ex.bl x).den) ρ) Q R z = Out.Pz ((dCon (.bl x)) ρ) Q R .mk := by cases z; exact id rfl
theorem w_den_non  {Q : _ → En → Prop} {R : Xn → En → Prop} {z : Lz (Q, R)} : Out.Pz ((Ex.non.den) ρ) Q R z = Out.Pz ((dCon .non) ρ) Q R .mk := by cases z; exact id rfl
theorem w_den_glo (y : Str) (d : D) {Q : _ → En → Prop} {R : Xn → En → Prop} {z : Lz (Q, R)} : Out.Pz (((Ex.glo y d).den) ρ) Q R z = Out.Pz ((dCon d) ρ) Q R .mk := by cases z; exact id rfl
theorem w_den_dict0  {Q : _ → En → Prop} {R : Xn → En → Prop} {z : Lz (Q, R)} : Out.Pz ((Ex.dict0.den) ρ) Q R z = Out.Pz ((dCon (.dic [])) ρ) Q R .mk := by cases z; exact id rfl
theorem w_den_lam (d : Cf) {Q : _ → En → Prop} {R : Xn → En → Prop} {z : Lz (Q, R)} : Out.Pz (((Ex.lam i d).den) ρ) Q R z = Out.Pz ((dCon (.clo i [])) ρ) Q R .mk := by cases z; exact id rfl
theorem w_con_at (d : D) {Q : _ → En → Prop} {R : Xn → En → Prop} {z : Lz (Q, R)} : Out.Pz ((dCon d ρ)) Q R z = Out.Pz ((.ok d ρ)) Q R .mk := by cases z; exact id rfl
theorem w_as_nil  {Q : _ → En → Prop} {R : Xn → En → Prop} {z : Lz (Q, R)} : Out.Pz ((As.nil.den ρ)) Q R z = Out.Pz ((.ok [] ρ)) Q R .mk := by cases z; exact id rfl
theorem w_as_cons (r : As) {Q : _ → En → Prop} {R : Xn → En → Prop} {z : Lz (Q, R)} : Out.Pz (((As.cons a r).den ρ)) Q R z = Out.Pz (((a.den ρ).bind fun d ρ1 => (r.den ρ1).bind fun ds ρ2 => .ok (d :: ds) ρ2)) Q R .mk := by cases z; exact id rfl
theorem w_den_tup  {Q : _ → En → Prop} {R : Xn → En → Prop} {z : Lz (Q, R)} : Out.Pz (((Ex.tup as).den ρ)) Q R z = Out.Pz (((as.den ρ).bind fun ds ρ1 => Out.lift (if ds.length ≤ sizeLine then some (.tup ds) else none) ρ1)) Q R .mk := by cases z; exact id rfl
theorem w_den_lst  {Q : _ → En → Prop} {R : Xn → En → Prop} {z : Lz (Q, R)} : Out.Pz (((Ex.lst as).den ρ)) Q R z = Out.Pz (((as.den ρ).bind fun ds ρ1 => Out.lift (if ds.length ≤ sizeLine then some (.lst ds) else none) ρ1)) Q R .mk := by cases z; exact id rfl
theorem w_den_bin (op : Operator) {Q : _ → En → Prop} {R : Xn → En → Prop} {z : Lz (Q, R)} : Out.Pz (((Ex.bin op a b).den ρ)) Q R z = Out.Pz (((a.den ρ).bind fun x ρ1 => (b.den ρ1).bind fun y ρ2 => Out.lift (binD op x y) ρ2)) Q R .mk := by cases z; exact id rfl
theorem w_den_neg  {Q : _ → En → Prop} {R : Xn → En → Prop} {z : Lz (Q, R)} : Out.Pz (((Ex.neg a).den ρ)) Q R z = Out.Pz (((a.den ρ).bind fun x ρ1 => Out.lift (match x with | .int i => some (.int (-i)) | _ => none) ρ1)) Q R .mk := by cases z; exact id rfl
theorem w_den_cmp (op : CmpOp) {Q : _ → En → Prop} {R : Xn → En → Prop} {z : Lz (Q, R)} : Out.Pz (((Ex.cmp op a b).den ρ)) Q R z = Out.Pz (((a.den ρ).bind fun x ρ1 => (b.den ρ1).bind fun y ρ2 => Out.lift (mapB (cmpD op) x y) ρ2)) Q R .mk := by cases z; exact id rfl
theorem w_tst_cmp (op : CmpOp) {Q : _ → En → Prop} {R : Xn → En → Prop} {z : Lz (Q, R)} : Out.Pz (((Ex.cmp op a b).tst ρ)) Q R z = Out.Pz (((a.den ρ).bind fun x ρ1 => (b.den ρ1).bind fun y ρ2 => Out.lift (cmpD op x y) ρ2)) Q R .mk := by cases z; exact id rfl
theorem w_den_chn (o p : CmpOp) {Q : _ → En → Prop} {R : Xn → En → Prop} {z : Lz (Q, R)} : Out.Pz (((Ex.chn o p a b c).den) ρ) Q R z = Out.Pz ((toD (dChn (cmpD o) (cmpD p) a b c)) ρ) Q R .mk := by cases z; exact id rfl
theorem w_tst_chn (o p : CmpOp) {Q : _ → En → Prop} {R : Xn → En → Prop} {z : Lz (Q, R)} : Out.Pz (((Ex.chn o p a b c).tst) ρ) Q R z = Out.Pz ((dChn (cmpD o) (cmpD p) a b c) ρ) Q R .mk := by cases z; exact id rfl
theorem w_den_idx  {Q : _ → En → Prop} {R : Xn → En → Prop} {z : Lz (Q, R)} : Out.Pz (((Ex.idx a b).den ρ)) Q R z = Out.Pz (((a.den ρ).bind fun x ρ1 => (b.den ρ1).bind fun y ρ2 => Out.lift (idxD x y) ρ2)) Q R .mk := by cases z; exact id rfl
theorem w_den_sli (lo hi : Po) {Q : _ → En → Prop} {R : Xn → En → Prop} {z : Lz (Q, R)} : Out.Pz (((Ex.sli a lo hi).den ρ)) Q R z = Out.Pz (((a.den ρ).bind fun x ρ1 => (lo.den ρ1).bind fun l ρ2 => (hi.den ρ2).bind fun u ρ3 => Out.lift (sliD x l u) ρ3)) Q R .mk := by cases z; exact id rfl
theorem w_po_none_at  {Q : _ → En → Prop} {R : Xn → En → Prop} {z : Lz (Q, R)} : Out.Pz ((Po.none.den ρ)) Q R z = Out.Pz ((.ok none ρ)) Q R .mk := by cases z; exact id rfl
theorem w_po_some_at  {Q : _ → En → Prop} {R : Xn → En → Prop} {z : Lz (Q, R)} : Out.Pz (((Po.some a).den ρ)) Q R z = Out.Pz (((a.den ρ).bind fun d ρ1 => match d with | .int i => .ok (some i) ρ1 | _ => .no)) Q R .mk := by cases z; exact id rfl
theorem w_den_revT  {Q : _ → En → Prop} {R : Xn → En → Prop} {z : Lz (Q, R)} : Out.Pz (((Ex.revT a).den ρ)) Q R z = Out.Pz (((a.den ρ).bind fun x ρ1 => Out.lift (revTD x) ρ1)) Q R .mk := by cases z; exact id rfl
theorem w_den_bfn (f : BFn) {Q : _ → En → Prop} {R : Xn → En → Prop} {z : Lz (Q, R)} : Out.Pz (((Ex.bfn f as).den ρ)) Q R z = Out.Pz (((as.den ρ).bind fun ds ρ1 => Out.lift (f.g ds) ρ1)) Q R .mk := by cases z; exact id rfl
theorem w_den_tfn (f : TFn) {Q : _ → En → Prop} {R : Xn → En → Prop} {z : Lz (Q, R)} : Out.Pz (((Ex.tfn f as).den ρ)) Q R z = Out.Pz (((as.den ρ).bind fun ds ρ1 => Out.lift (f.g ds) ρ1)) Q R .mk := by cases z; exact id rfl
theorem w_den_isi (T : TyN) {Q : _ → En → Prop} {R : Xn → En → Prop} {z : Lz (Q, R)} : Out.Pz (((Ex.isi a T).den ρ)) Q R z = Out.Pz (((a.den ρ).bind fun d ρ1 => Out.lift (isiD T.T d) ρ1)) Q R .mk := by cases z; exact id rfl
theorem w_den_oidx  {Q : _ → En → Prop} {R : Xn → En → Prop} {z : Lz (Q, R)} : Out.Pz (((Ex.oidx i a).den) ρ) Q R z = Out.Pz ((oidxD i a) ρ) Q R .mk := by cases z; exact id rfl
theorem w_den_olen  {Q : _ → En → Prop} {R : Xn → En → Prop} {z : Lz (Q, R)} : Out.Pz (((Ex.olen i).den) ρ) Q R z = Out.Pz ((olenD i) ρ) Q R .mk := by cases z; exact id rfl
theorem w_den_new (f : Fx) {Q : _ → En → Prop} {R : Xn → En → Prop} {z : Lz (Q, R)} : Out.Pz (((Ex.new f).den ρ)) Q R z = Out.Pz (((f.den ρ).bind fun ds ρ1 => .ok (.lst ds) ρ1)) Q R .mk := by cases z; exact id rfl
theorem w_den_call (x : Str) (F : FSem) (ar : Ar) {Q : _ → En → Prop} {R : Xn → En → Prop} {z : Lz (Q, R)} : Out.Pz (((Ex.call x F ar).den ρ)) Q R z = Out.Pz (((ar.den ρ).bind fun ds ρ1 => if ds.length = F.ar then callK F ar.own ds ρ1 else .no)) Q R .mk := by cases z; exact id rfl
theorem w_den_call0 (x : Str) (F : FSem) {Q : _ → En → Prop} {R : Xn → En → Prop} {z : Lz (Q, R)} : Out.Pz (((Ex.call0 x F).den ρ)) Q R z = Out.Pz ((if (0 : Nat) = F.ar then callK F [] [] ρ else .no)) Q R .mk := by cases z; exact id rfl
theorem w_den_callf (x : Str) (F : FSem) (f : Fx) {Q : _ → En → Prop} {R : Xn → En → Prop} {z : Lz (Q, R)} : Out.Pz (((Ex.callf x F f).den ρ)) Q R z = Out.Pz (((f.den ρ).bind fun ds ρ1 => callfK F ds ρ1)) Q R .mk := by cases z; exact id rfl
theorem w_den_callkw (x : Str) (F : FSem) (pm : List Nat) (kx : Kx) {Q : _ → En → Prop} {R : Xn → En → Prop} {z : Lz (Q, R)} : Out.Pz (((Ex.callkw x F pm kx).den) ρ) Q R z = Out.Pz ((kwD F pm kx) ρ) Q R .mk := by cases z; exact id rfl
theorem w_den_callv (tb : List (Nat × FSem)) {Q : _ → En → Prop} {R : Xn → En → Prop} {z : Lz (Q, R)} : Out.Pz (((Ex.callv tb i as).den) ρ) Q R z = Out.Pz ((callvD tb i as) ρ) Q R .mk := by cases z; exact id rfl
theorem w_den_and (x : Bs) {Q : _ → En → Prop} {R : Xn → En → Prop} {z : Lz (Q, R)} : Out.Pz (((Ex.and x).den) ρ) Q R z = Out.Pz ((x.dAnd) ρ) Q R .mk := by cases z; exact id rfl
theorem w_den_or (x : Bs) {Q : _ → En → Prop} {R : Xn → En → Prop} {z : Lz (Q, R)} : Out.Pz (((Ex.or x).den) ρ) Q R z = Out.Pz ((x.dOr) ρ) Q R .mk := by cases z; exact id rfl
theorem w_tst_and (x : Bs) {Q : _ → En → Prop} {R : Xn → En → Prop} {z : Lz (Q, R)} : Out.Pz (((Ex.and x).tst) ρ) Q R z = Out.Pz ((x.tAnd) ρ) Q R .mk := by cases z; exact id rfl
theorem w_tst_or (x : Bs) {Q : _ → En → Prop} {R : Xn → En → Prop} {z : Lz (Q, R)} : Out.Pz (((Ex.or x).tst) ρ) Q R z = Out.Pz ((x.tOr) ρ) Q R .mk := by cases z; exact id rfl
theorem w_one_dAnd  {Q : _ → En → Prop} {R : Xn → En → Prop} {z : Lz (Q, R)} : Out.Pz (((Bs.one a).dAnd) ρ) Q R z = Out.Pz ((a.den) ρ) Q R .mk := by cases z; exact id rfl
theorem w_one_dOr  {Q : _ → En → Prop} {R : Xn → En → Prop} {z : Lz (Q, R)} : Out.Pz (((Bs.one a).dOr) ρ) Q R z = Out.Pz ((a.den) ρ) Q R .mk := by cases z; exact id rfl
theorem w_one_tAnd  {Q : _ → En → Prop} {R : Xn → En → Prop} {z : Lz (Q, R)} : Out.Pz (((Bs.one a).tAnd) ρ) Q R z = Out.Pz ((a.tst) ρ) Q R .mk := by cases z; exact id rfl
theorem w_one_tOr  {Q : _ → En → Prop} {R : Xn → En → Prop} {z : Lz (Q, R)} : Out.Pz (((Bs.one a).tOr) ρ) Q R z = Out.Pz ((a.tst) ρ) Q R .mk := by cases z; exact id rfl
theorem w_cons_dAnd (r : Bs) {Q : _ → En → Prop} {R : Xn → En → Prop} {z : Lz (Q, R)} : Out.Pz (((Bs.cons a r).dAnd ρ)) Q R z = Out.Pz (((a.den ρ).bind fun d ρ1 => (Out.lift d.truth ρ1).bind fun t ρ2 => if t = true then r.dAnd ρ2 else .ok d ρ2)) Q R .mk := by cases z; exact id rfl
theorem w_cons_dOr (r : Bs) {Q : _ → En → Prop} {R : Xn → En → Prop} {z : Lz (Q, R)} : Out.Pz (((Bs.cons a r).dOr ρ)) Q R z = Out.Pz (((a.den ρ).bind fun d ρ1 => (Out.lift d.truth ρ1).bind fun t ρ2 => if t = true then .ok d ρ2 else r.dOr ρ2)) Q R .mk := by cases z; exact id rfl
theorem w_cons_tAnd (r : Bs) {Q : _ → En → Prop} {R : Xn → En → Prop} {z : Lz (Q, R)} : Out.Pz (((Bs.cons a r).tAnd ρ)) Q R z = Out.Pz (((a.tst ρ).bind fun t ρ1 => if t = true then r.tAnd ρ1 else .ok false ρ1)) Q R .mk := by cases z; exact id rfl
theorem w_cons_tOr (r : Bs) {Q : _ → En → Prop} {R : Xn → En → Prop} {z : Lz (Q, R)} : Out.Pz (((Bs.cons a r).tOr ρ)) Q R z = Out.Pz (((a.tst ρ).bind fun t ρ1 => if t = true then .ok true ρ1 else r.tOr ρ1)) Q R .mk := by cases z; exact id rfl
theorem w_den_not  {Q : _ → En → Prop} {R : Xn → En → Prop} {z : Lz (Q, R)} : Out.Pz (((Ex.not a).den ρ)) Q R z = Out.Pz (((a.den ρ).bind fun d ρ1 => (Out.lift d.truth ρ1).bind fun t ρ2 => .ok (.bl (!t)) ρ2)) Q R .mk := by cases z; exact id rfl
theorem w_tst_not  {Q : _ → En → Prop} {R : Xn → En → Prop} {z : Lz (Q, R)} : Out.Pz (((Ex.not a).tst ρ)) Q R z = Out.Pz (((a.tst ρ).bind fun t ρ1 => .ok (!t) ρ1)) Q R .mk := by cases z; exact id rfl
theorem w_den_ife  {Q : _ → En → Prop} {R : Xn → En → Prop} {z : Lz (Q, R)} : Out.Pz (((Ex.ife a b c).den ρ)) Q R z = Out.Pz (((a.tst ρ).bind fun t ρ1 => if t = true then b.den ρ1 else c.den ρ1)) Q R .mk := by cases z; exact id rfl
theorem w_den_repr (n : Bool) {Q : _ → En → Prop} {R : Xn → En → Prop} {z : Lz (Q, R)} : Out.Pz (((Ex.repr n a b).den) ρ) Q R z = Out.Pz ((toD (dRepr n a b)) ρ) Q R .mk := by cases z; exact id rfl
theorem w_tst_repr (n : Bool) {Q : _ → En → Prop} {R : Xn → En → Prop} {z : Lz (Q, R)} : Out.Pz (((Ex.repr n a b).tst) ρ) Q R z = Out.Pz ((dRepr n a b) ρ) Q R .mk := by cases z; exact id rfl
theorem w_tst_var  {Q : _ → En → Prop} {R : Xn → En → Prop} {z : Lz (Q, R)} : Out.Pz (((Ex.var i).tst ρ)) Q R z = Out.Pz (((dVar i ρ).bind fun d ρ1 => Out.lift d.truth ρ1)) Q R .mk := by cases z; exact id rfl
theorem w_tst_isi (T : TyN) {Q : _ → En → Prop} {R : Xn → En → Prop} {z : Lz (Q, R)} : Out.Pz (((Ex.isi a T).tst ρ)) Q R z = Out.Pz ((((Ex.isi a T).den ρ).bind fun d ρ1 => Out.lift d.truth ρ1)) Q R .mk := by cases z; exact id rfl
theorem w_tst_call (x : Str) (F : FSem) (ar : Ar) {Q : _ → En → Prop} {R : Xn → En → Prop} {z : Lz (Q, R)} : Out.Pz (((Ex.call x F ar).tst ρ)) Q R z = Out.Pz ((((Ex.call x F ar).den ρ).bind fun d ρ1 => Out.lift d.truth ρ1)) Q R .mk := by cases z; exact id rfl
theorem w_tst_callv (tb : List (Nat × FSem)) {Q : _ → En → Prop} {R : Xn → En → Prop} {z : Lz (Q, R)} : Out.Pz (((Ex.callv tb i as).tst ρ)) Q R z = Out.Pz ((((Ex.callv tb i as).den ρ).bind fun d ρ1 => Out.lift d.truth ρ1)) Q R .mk := by cases z; exact id rfl
theorem w_tst_bfn (f : BFn) {Q : _ → En → Prop} {R : Xn → En → Prop} {z : Lz (Q, R)} : Out.Pz (((Ex.bfn f as).tst ρ)) Q R z = Out.Pz ((((Ex.bfn f as).den ρ).bind fun d ρ1 => Out.lift d.truth ρ1)) Q R .mk := by cases z; exact id rfl
theorem w_toD_at (f : En → Out Bool) {Q : _ → En → Prop} {R : Xn → En → Prop} {z : Lz (Q, R)} : Out.Pz ((toD f ρ)) Q R z = Out.Pz (((f ρ).bind fun x ρ1 => .ok (.bl x) ρ1)) Q R .mk := by cases z; exact id rfl
theorem w_ar_nil  {Q : _ → En → Prop} {R : Xn → En → Prop} {z : Lz (Q, R)} : Out.Pz ((Ar.nil.den ρ)) Q R z = Out.Pz ((.ok [] ρ)) Q R .mk := by cases z; exact id rfl
theorem w_ar_cons (r : Ar) {Q : _ → En → Prop} {R : Xn → En → Prop} {z : Lz (Q, R)} : Out.Pz (((Ar.cons a r).den ρ)) Q R z = Out.Pz (((a.den ρ).bind fun d ρ1 => (r.den ρ1).bind fun ds ρ2 => .ok (d :: ds) ρ2)) Q R .mk := by cases z; exact id rfl
theorem w_ar_own (r : Ar) {Q : _ → En → Prop} {R : Xn → En → Prop} {z : Lz (Q, R)} : Out.Pz (((Ar.own_ i r).den ρ)) Q R z = Out.Pz ((if isOwn ρ i = true then (r.den ρ).bind fun ds ρ2 => .ok (.non :: ds) ρ2 else .no)) Q R .mk := by cases z; exact id rfl
theorem w_sr_val  {Q : _ → En → Prop} {R : Xn → En → Prop} {z : Lz (Q, R)} : Out.Pz (((Sr.val a).den ρ)) Q R z = Out.Pz (((a.den ρ).bind fun d ρ1 => Out.lift (itemsOf d) ρ1)) Q R .mk := by cases z; exact id rfl
theorem w_sr_enum  {Q : _ → En → Prop} {R : Xn → En → Prop} {z : Lz (Q, R)} : Out.Pz (((Sr.enum as).den ρ)) Q R z = Out.Pz (((as.den ρ).bind fun ds ρ1 => Out.lift (enumD ds) ρ1)) Q R .mk := by cases z; exact id rfl
theorem w_sr_zip  {Q : _ → En → Prop} {R : Xn → En → Prop} {z : Lz (Q, R)} : Out.Pz (((Sr.zip as).den ρ)) Q R z = Out.Pz (((as.den ρ).bind fun ds ρ1 => Out.lift (zipsD ds) ρ1)) Q R .mk := by cases z; exact id rfl
theorem w_sr_range1  {Q : _ → En → Prop} {R : Xn → En → Prop} {z : Lz (Q, R)} : Out.Pz (((Sr.range1 as).den ρ)) Q R z = Out.Pz (((as.den ρ).bind fun ds ρ1 => Out.lift (r1D ds) ρ1)) Q R .mk := by cases z; exact id rfl
theorem w_cs_nil  {Q : _ → En → Prop} {R : Xn → En → Prop} {z : Lz (Q, R)} : Out.Pz ((Cs.nil.den ρ)) Q R z = Out.Pz ((.ok true ρ)) Q R .mk := by cases z; exact id rfl
theorem w_cs_one  {Q : _ → En → Prop} {R : Xn → En → Prop} {z : Lz (Q, R)} : Out.Pz (((Cs.one a).den) ρ) Q R z = Out.Pz ((a.tst) ρ) Q R .mk := by cases z; exact id rfl
theorem w_fx_lst  {Q : _ → En → Prop} {R : Xn → En → Prop} {z : Lz (Q, R)} : Out.Pz (((Fx.lst as).den ρ)) Q R z = Out.Pz (((as.den ρ).bind fun ds ρ1 => if ds.length ≤ sizeLine then .ok ds ρ1 else .no)) Q R .mk := by cases z; exact id rfl
theorem w_fx_lc (s : Sr) (t : Tg) (cs : Cs) (vs : List Nat) {Q : _ → En → Prop} {R : Xn → En → Prop} {z : Lz (Q, R)} : Out.Pz (((Fx.lc s t cs a vs).den) ρ) Q R z = Out.Pz ((lcD s.den vs t.den cs.den a.den) ρ) Q R .mk := by cases z; exact id rfl
theorem w_fx_call (x : Str) (F : FSem) (ar : Ar) {Q : _ → En → Prop} {R : Xn → En → Prop} {z : Lz (Q, R)} : Out.Pz (((Fx.call x F ar).den) ρ) Q R z = Out.Pz ((callF F ar) ρ) Q R .mk := by cases z; exact id rfl
theorem w_fx_listRg1  {Q : _ → En → Prop} {R : Xn → En → Prop} {z : Lz (Q, R)} : Out.Pz (((Fx.listRg1 a).den ρ)) Q R z = Out.Pz (((a.den ρ).bind fun d ρ1 => Out.lift (match d with | .int j => rgL 0 j | _ => none) ρ1)) Q R .mk := by cases z; exact id rfl
theorem w_den_gindex (y : Str) (ds : List D) {Q : _ → En → Prop} {R : Xn → En → Prop} {z : Lz (Q, R)} : Out.Pz (((Ex.gindex y ds a).den ρ)) Q R z = Out.Pz (((a.den ρ).bind fun x ρ1 => Out.lift (indexD (.tup ds) x) ρ1)) Q R .mk := by cases z; exact id rfl
theorem w_den_lindex  {Q : _ → En → Prop} {R : Xn → En → Prop} {z : Lz (Q, R)} : Out.Pz (((Ex.lindex a b).den ρ)) Q R z = Out.Pz (((a.den ρ).bind fun x ρ1 => if isL x = true then (b.den ρ1).bind fun y ρ2 => Out.lift (indexD x y) ρ2 else .no)) Q R .mk := by cases z; exact id rfl
theorem w_bl_nil  {P : Pq} {z : Lz P} : So.Pz ((Bl.nil.den ρ)) P z = So.Pz ((.nx ρ)) P .mk := by cases z; exact id rfl
theorem w_bl_cons (s : Sm) (r : Bl) {P : Pq} {z : Lz P} : So.Pz (((Bl.cons s r).den ρ)) P z = So.Pz (((s.den ρ).next r.den)) P .mk := by cases z; exact id rfl
theorem w_sm_ret  {P : Pq} {z : Lz P} : So.Pz (((Sm.ret a).den ρ)) P z = So.Pz ((So.after (a.den ρ) fun d ρ1 => .rt d ρ1)) P .mk := by cases z; exact id rfl
theorem w_sm_retF (f : Fx) {P : Pq} {z : Lz P} : So.Pz (((Sm.retF f).den ρ)) P z = So.Pz ((So.after (f.den ρ) fun ds ρ1 => .rf ds ρ1)) P .mk := by cases z; exact id rfl
theorem w_sm_retO  {P : Pq} {z : Lz P} : So.Pz (((Sm.retO i).den) ρ) P z = So.Pz ((Ev.retO i) ρ) P .mk := by cases z; exact id rfl
theorem w_sm_ifs (x y : Bl) {P : Pq} {z : Lz P} : So.Pz (((Sm.ifs a x y).den ρ)) P z = So.Pz ((So.after (a.tst ρ) fun t ρ1 => if t = true then x.den ρ1 else y.den ρ1)) P .mk := by cases z; exact id rfl
theorem w_sm_for (t : Tg) (r : Sr) (x : Bl) {P : Pq} {z : Lz P} : So.Pz (((Sm.for_ t r x).den ρ)) P z = So.Pz ((So.after (r.den ρ) fun ds ρ1 => forGo t.den x.den ds ρ1)) P .mk := by cases z; exact id rfl
theorem w_sm_set {P : Pq} {z : Lz P} : So.Pz ((Sm.set i a).den ρ) P z = (a.den ρ).Pz (fun d ρ1 => OPz (nameD i d ρ1) P.nx .mk) P.er .mk := by
  cases z
  show So.Pz (So.after (a.den ρ) _) P .mk = _
  rw [sz_after]
  refine pz_ext fun d ρ1 => ?_
  cases nameD i d ρ1 <;> rfl
theorem w_sm_asg (t : Tg) {P : Pq} {z : Lz P} : So.Pz ((Sm.asg t a).den ρ) P z = (a.den ρ).Pz (fun d ρ1 => OPz (t.den d ρ1) P.nx .mk) P.er .mk := by
  cases z
  show So.Pz (So.after (a.den ρ) _) P .mk = _
  rw [sz_after]
  refine pz_ext fun d ρ1 => ?_
  cases t.den d ρ1 <;> rfl
theorem w_sm_frz (m : Sm) {P : Pq} {z : Lz P} : So.Pz ((Sm.frz i m).den ρ) P z = OPz (frzD i ρ) (fun ρ1 => (m.den ρ1).Pz P .mk) .mk := by
  cases z
  show So.Pz (match frzD i ρ with | some ρ1 => m.den ρ1 | none => .no) P .mk = _
  cases frzD i ρ <;> rfl
theorem w_sm_parM (is : List Nat) (ms : Ms) {P : Pq} {z : Lz P} : So.Pz ((Sm.parM is ms).den ρ) P z = (ms.den ρ).Pz (fun mds ρ1 => OPz (putM is mds ρ1) P.nx .mk) P.er .mk := by
  cases z
  show So.Pz (So.after (ms.den ρ) _) P .mk = _
  rw [sz_after]
  refine pz_ext fun d ρ1 => ?_
  cases putM is d ρ1 <;> rfl
theorem w_sm_own (f : Fx) {P : Pq} {z : Lz P} : So.Pz (((Sm.own i f).den ρ)) P z = So.Pz ((So.after (f.den ρ) (ownD i))) P .mk := by cases z; exact id rfl
theorem w_sm_app  {P : Pq} {z : Lz P} : So.Pz (((Sm.app i a).den ρ)) P z = So.Pz ((if isOwn ρ i = true then So.after (a.den ρ) (appD i) else .no)) P .mk := by cases z; exact id rfl
theorem w_sm_stuck  {P : Pq} {z : Lz P} : So.Pz ((Sm.stuck.den ρ)) P z = So.Pz ((.no)) P .mk := by cases z; exact id rfl
theorem w_ms_nil  {Q : _ → En → Prop} {R : Xn → En → Prop} {z : Lz (Q, R)} : Out.Pz ((Ms.nil.den ρ)) Q R z = Out.Pz ((.ok [] ρ)) Q R .mk := by cases z; exact id rfl
theorem w_ms_v (r : Ms) {Q : _ → En → Prop} {R : Xn → En → Prop} {z : Lz (Q, R)} : Out.Pz (((Ms.v a r).den ρ)) Q R z = Out.Pz (((a.den ρ).bind fun d ρ1 => (r.den ρ1).bind fun ds ρ2 => .ok (.v d :: ds) ρ2)) Q R .mk := by cases z; exact id rfl
theorem w_ms_f (f : Fx) (r : Ms) {Q : _ → En → Prop} {R : Xn → En → Prop} {z : Lz (Q, R)} : Out.Pz (((Ms.f f r).den ρ)) Q R z = Out.Pz (((f.den ρ).bind fun d ρ1 => (r.den ρ1).bind fun ds ρ2 => .ok (.f d :: ds) ρ2)) Q R .mk := by cases z; exact id rfl
end
theorem FO.Post.mono {o : FO} {Q Q' : D → List D → Prop} {R R' : Xn → List D → Prop} (h : o.Post Q R) (q : ∀ d os, Q d os → Q' d os) (r : ∀ x os, R x os → R' x os) : o.Post Q' R' := by
  cases o with
  | no => exact h
  | ok d os => exact q d os h
  | er x os => exact r x os h
theorem FO.Ok.mono {o : FO} {Q Q' : D → List D → Prop} {R' : Xn → List D → Prop} (h : o.Ok Q) (q : ∀ d os, Q d os → Q' d os) : o.Post Q' R' := FO.Post.mono h q fun _ _ z => z.elim
theorem FO.Ok.eq {o : FO} {Q : D → List D → Prop} (h : o.Ok Q) : ∃ d os, o = .ok d os ∧ Q d os := by
  cases o with
  | no => exact h.elim
  | ok d os => exact ⟨d, os, rfl, h⟩
  | er x os => exact h.elim
theorem FO.Ok.of {o : FO} {Q : D → List D → Prop} {d : D} {os : List D} (h : o = .ok d os) (q : Q d os) : o.Ok Q := by rw [h]; exact q
theorem So.Post.mono {s : So} {P P' : Pq} (h : s.Post P) (h1 : ∀ ρ, P.nx ρ → P'.nx ρ) (h2 : ∀ ρ, P.bk ρ → P'.bk ρ) (h3 : ∀ ρ, P.ct ρ → P'.ct ρ) (h4 : ∀ d ρ, P.rt d ρ → P'.rt d ρ) (h5 : ∀ d ρ, P.rf d ρ → P'.rf d ρ) (h6 : ∀ x ρ, P.er x ρ → P'.er x ρ) : s.Post P' := by
  cases s with
  | no => exact h
  | nx ρ => exact h1 ρ h
  | bk ρ => exact h2 ρ h
  | ct ρ => exact h3 ρ h
  | rt d ρ => exact h4 d ρ h
  | rf d ρ => exact h5 d ρ h
  | er x ρ => exact h6 x ρ h
theorem wp_bind {α β : Type} {Q : β → En → Prop} {R : Xn → En → Prop} (o : Out α) (k : α → En → Out β) : (o.bind k).Post Q R = o.Post (fun a ρ => (k a ρ).Post Q R) R := by cases o <;> rfl
theorem sp_after {α : Type} {P : Pq} (o : Out α) (k : α → En → So) : (So.after o k).Post P = o.Post (fun a ρ => (k a ρ).Post P) P.er := by cases o <;> rfl
theorem OP.mono {α : Type} {o : Option α} {k k' : α → Prop} (h : OP o k) (m : ∀ a, k a → k' a) : OP o k' := by
  cases o with
  | none => exact h
  | some a => exact m a h
/-! ### rows of values -/
theorem e_lenD_tup (xs : List D) : lenD [.tup xs] = some (.int xs.length) := id rfl
theorem e_lenD_lst (xs : List D) : lenD [.lst xs] = some (.int xs.length) := id rfl
theorem e_lenD_scr (xs : List Int) : lenD [.scr xs] = some (.int xs.length) := id rfl
theorem e_absD_int (i : Int) : absD [.int i] = some (.int (if i < 0 then -i else i)) := id rfl
theorem e_maxD_int (i j : Int) : maxD [.int i, .int j] = some (.int (if j > i then j else i)) := id rfl
theorem e_minD_int (i j : Int) : minD [.int i, .int j] = some (.int (if j < i then j else i)) := id rfl
theorem e_maxD_lst (ds : List D) : maxD [.lst ds] = ((intsOf ds).bind maxI).map .int := id rfl
theorem e_minD_lst (ds : List D) : minD [.lst ds] = ((intsOf ds).bind minI).map .int := id rfl
theorem e_divmodD_int (i j : Int) : divmodD [.int i, .int j] = if 0 < j ∧ j < 1073741824 then some (.tup [.int (i / j), .int (i % j)]) else none := id rfl
theorem e_allD_lst (ds : List D) : allD [.lst ds] = (blsOf ds).map fun bs => .bl (bs.all id) := id rfl
theorem e_anyD_lst (ds : List D) : anyD [.lst ds] = (blsOf ds).map fun bs => .bl (bs.any id) := id rfl
theorem e_sumD_lst (ds : List D) : sumD [.lst ds] = (intsOf ds).map fun ns => .int ns.sum := id rfl
theorem e_intD_int (i : Int) : intD [.int i] = some (.int i) := id rfl
theorem e_intD_bl (b : Bool) : intD [.bl b] = some (.int (if b then 1 else 0)) := id rfl
theorem e_listD_lst (xs : List D) : listD [.lst xs] = some (.lst xs) := id rfl
theorem e_listD_tup (xs : List D) : listD [.tup xs] = some (.lst xs) := id rfl
theorem e_listD_scr (xs : List Int) : listD [.scr xs] = some (.lst (xs.map .int)) := id rfl
theorem e_tupleD_lst (xs : List D) : tupleD [.lst xs] = some (.tup xs) := id rfl
theorem e_tupleD_tup (xs : List D) : tupleD [.tup xs] = some (.tup xs) := id rfl
theorem e_tyOf_non : tyOf .non = some "NoneType" := id rfl
theorem e_tyOf_bl (b : Bool) : tyOf (.bl b) = some "bool" := id rfl
theorem e_tyOf_int (b : Int) : tyOf (.int b) = some "int" := id rfl
theorem e_tyOf_str (b : Str) : tyOf (.str b) = some "str" := id rfl
theorem e_tyOf_tup (b : List D) : tyOf (.tup b) = some "tuple" := id rfl
theorem e_tyOf_lst (b : List D) : tyOf (.lst b) = some "list" := id rfl
theorem e_tyOf_scr (b : List Int) : tyOf (.scr b) = some "list" := id rfl
theorem e_tyOf_dic : tyOf (.dic []) = some "dict" := id rfl
theorem e_isiD_def (T : String) (d : D) : isiD T d = (tyOf d).map fun t => .bl (isiB t T) := id rfl
theorem e_idxD_tup (xs : List D) (i : Int) : idxD (.tup xs) (.int i) = atI xs i := id rfl
theorem e_idxD_lst (xs : List D) (i : Int) : idxD (.lst xs) (.int i) = atI xs i := id rfl
theorem e_idxD_scr (xs : List Int) (i : Int) : idxD (.scr xs) (.int i) = (atI xs i).map .int := id rfl
theorem e_sliD_tup (xs : List D) (a b : Option Int) : sliD (.tup xs) a b = some (.tup (cutL xs a b)) := id rfl
theorem e_sliD_lst (xs : List D) (a b : Option Int) : sliD (.lst xs) a b = some (.lst (cutL xs a b)) := id rfl
theorem e_sliD_scr (xs : List Int) (a b : Option Int) : sliD (.scr xs) a b = some (.lst ((cutL xs a b).map .int)) := id rfl
theorem e_revTD_tup (xs : List D) : revTD (.tup xs) = some (.tup xs.reverse) := id rfl
theorem e_itemsOf_tup (xs : List D) : itemsOf (.tup xs) = some xs := id rfl
theorem e_itemsOf_lst (xs : List D) : itemsOf (.lst xs) = some xs := id rfl
theorem e_itemsOf_scr (xs : List Int) : itemsOf (.scr xs) = some (xs.map .int) := id rfl
theorem e_itemsOf_str (z : Str) : itemsOf (.str z) = some (signsOf z) := id rfl
theorem e_enumD_lst (xs : List D) : enumD [.lst xs] = some (pairUp 0 xs) := id rfl
theorem e_enumD_tup (xs : List D) : enumD [.tup xs] = some (pairUp 0 xs) := id rfl
theorem e_zipsD_lst (xs ys : List D) : zipsD [.lst xs, .lst ys] = some (zipD xs ys) := id rfl
theorem e_zipsD_tup (xs ys : List D) : zipsD [.tup xs, .tup ys] = some (zipD xs ys) := id rfl
theorem e_r1D_int (j : Int) : r1D [.int j] = rngD [.int j] := id rfl
theorem e_ltD_int (i j : Int) : ltD (.int i) (.int j) = some (decide (i < j)) := id rfl
theorem e_ltD_str (a b : Str) : ltD (.str a) (.str b) = some (decide (a.cps.toList < b.cps.toList)) := id rfl
theorem e_leD_int (i j : Int) : leD (.int i) (.int j) = some (decide (i ≤ j)) := id rfl
theorem e_isNon_non : D.isNon .non = true := id rfl
theorem e_isNon_bl (b : Bool) : D.isNon (.bl b) = false := id rfl
theorem e_isNon_int (b : Int) : D.isNon (.int b) = false := id rfl
theorem e_isNon_str (b : Str) : D.isNon (.str b) = false := id rfl
theorem e_isNon_tup (b : List D) : D.isNon (.tup b) = false := id rfl
theorem e_isNon_lst (b : List D) : D.isNon (.lst b) = false := id rfl
theorem e_isNon_dic (b : List (D × D)) : D.isNon (.dic b) = false := id rfl
theorem e_isD_bl (a b : Bool) : isD (.bl a) (.bl b) = some (decide (a = b)) := id rfl
theorem e_inD_strt (a : Str) (xs : List D) : inD (.str a) (.tup xs) = inDs (.str a) xs := id rfl
theorem e_inD_strl (a : Str) (xs : List D) : inD (.str a) (.lst xs) = inDs (.str a) xs := id rfl
theorem e_inD_intt (a : Int) (xs : List D) : inD (.int a) (.tup xs) = inDs (.int a) xs := id rfl
theorem e_inD_intl (a : Int) (xs : List D) : inD (.int a) (.lst xs) = inDs (.int a) xs := id rfl
theorem e_opAdd_int (i j : Int) : opAdd (.int i) (.int j) = some (.int (i + j)) := id rfl
theorem e_opAdd_str (a b : Str) : opAdd (.str a) (.str b) = if a.length + b.length ≤ sizeLine then some (.str (a ++ b)) else none := id rfl
theorem e_opAdd_tup (a b : List D) : opAdd (.tup a) (.tup b) = if a.length + b.length ≤ sizeLine then some (.tup (a ++ b)) else none := id rfl
theorem e_opAdd_lst (a b : List D) : opAdd (.lst a) (.lst b) = if a.length + b.length ≤ sizeLine then some (.lst (a ++ b)) else none := id rfl
theorem e_opSub_int (i j : Int) : opSub (.int i) (.int j) = some (.int (i - j)) := id rfl
theorem e_opMul_int (i j : Int) : opMul (.int i) (.int j) = if CMulB i j then some (.int (i * j)) else none := id rfl
theorem e_opFdiv_int (i j : Int) : opFdiv (.int i) (.int j) = if 0 < j ∧ j < 1073741824 then some (.int (i / j)) else none := id rfl
theorem e_opMod_int (i j : Int) : opMod (.int i) (.int j) = if 0 < j then some (.int (i % j)) else none := id rfl
theorem e_truth_non : D.truth .non = some false := id rfl
theorem e_truth_bl (b : Bool) : D.truth (.bl b) = some b := id rfl
theorem e_truth_int (i : Int) : D.truth (.int i) = some (i != 0) := id rfl
theorem e_truth_tup (xs : List D) : D.truth (.tup xs) = some (!xs.isEmpty) := id rfl
theorem e_truth_lst (xs : List D) : D.truth (.lst xs) = some (!xs.isEmpty) := id rfl
theorem e_truth_dic : D.truth (.dic []) = some false := id rfl
theorem e_isL_lst (xs : List D) : isL (.lst xs) = true := id rfl
theorem e_isLst_lst (xs : List D) : D.isLst (.lst xs) = true := id rfl
theorem e_mapB_def (g : D → D → Option Bool) (d e : D) : mapB g d e = (g d e).map D.bl := id rfl
theorem e_cmpD_Lt (a b : D) : cmpD .Lt a b = ltD a b := id rfl
theorem e_cmpD_Gt (a b : D) : cmpD .Gt a b = ltD b a := id rfl
theorem e_cmpD_LtE (a b : D) : cmpD .LtE a b = leD a b := id rfl
theorem e_cmpD_GtE (a b : D) : cmpD .GtE a b = leD b a := id rfl
theorem e_cmpD_Eq (a b : D) : cmpD .Eq a b = eqD a b := id rfl
theorem e_cmpD_NotEq (a b : D) : cmpD .NotEq a b = (eqD a b).map (!·) := id rfl
theorem e_cmpD_In (a b : D) : cmpD .In a b = inD a b := id rfl
theorem e_cmpD_NotIn (a b : D) : cmpD .NotIn a b = (inD a b).map (!·) := id rfl
theorem e_cmpD_Is (a b : D) : cmpD .Is a b = isD a b := id rfl
theorem e_cmpD_IsNot (a b : D) : cmpD .IsNot a b = (isD a b).map (!·) := id rfl
theorem e_binD_Add (a b : D) : binD .Add a b = opAdd a b := id rfl
theorem e_binD_Sub (a b : D) : binD .Sub a b = opSub a b := id rfl
theorem e_binD_Mult (a b : D) : binD .Mult a b = opMul a b := id rfl
theorem e_binD_FloorDiv (a b : D) : binD .FloorDiv a b = opFdiv a b := id rfl
theorem e_binD_Mod (a b : D) : binD .Mod a b = opMod a b := id rfl
theorem e_binD_Pow (a b : D) : binD .Pow a b = opPow a b := id rfl
theorem e_isi_tyInt_non  : isiD tyInt.T .non = some (.bl false) := id rfl
theorem e_isi_tyInt_bl (b : Bool) : isiD tyInt.T (.bl b) = some (.bl true) := id rfl
theorem e_isi_tyInt_int (b : Int) : isiD tyInt.T (.int b) = some (.bl true) := id rfl
theorem e_isi_tyInt_str (b : Str) : isiD tyInt.T (.str b) = some (.bl false) := id rfl
theorem e_isi_tyInt_tup (b : List D) : isiD tyInt.T (.tup b) = some (.bl false) := id rfl
theorem e_isi_tyInt_lst (b : List D) : isiD tyInt.T (.lst b) = some (.bl false) := id rfl
theorem e_isi_tyInt_scr (b : List Int) : isiD tyInt.T (.scr b) = some (.bl false) := id rfl
theorem e_isi_tyInt_dic : isiD tyInt.T (.dic []) = some (.bl false) := id rfl
theorem e_isi_tyBool_non  : isiD tyBool.T .non = some (.bl false) := id rfl
theorem e_isi_tyBool_bl (b : Bool) : isiD tyBool.T (.bl b) = some (.bl true) := id rfl
theorem e_isi_tyBool_int (b : Int) : isiD tyBool.T (.int b) = some (.bl false) := id rfl
theorem e_isi_tyBool_str (b : Str) : isiD tyBool.T (.str b) = some (.bl false) := id rfl
theorem e_isi_tyBool_tup (b : List D) : isiD tyBool.T (.tup b) = some (.bl false) := id rfl
theorem e_isi_tyBool_lst (b : List D) : isiD tyBool.T (.lst b) = some (.bl false) := id rfl
theorem e_isi_tyBool_scr (b : List Int) : isiD tyBool.T (.scr b) = some (.bl false) := id rfl
theorem e_isi_tyBool_dic : isiD tyBool.T (.dic []) = some (.bl false) := id rfl
theorem e_isi_tyStr_non  : isiD tyStr.T .non = some (.bl false) := id rfl
theorem e_isi_tyStr_bl (b : Bool) : isiD tyStr.T (.bl b) = some (.bl false) := id rfl
theorem e_isi_tyStr_int (b : Int) : isiD tyStr.T (.int b) = some (.bl false) := id rfl
theorem e_isi_tyStr_str (b : Str) : isiD tyStr.T (.str b) = some (.bl true) := id rfl
theorem e_isi_tyStr_tup (b : List D) : isiD tyStr.T (.tup b) = some (.bl false) := id rfl
theorem e_isi_tyStr_lst (b : List D) : isiD tyStr.T (.lst b) = some (.bl false) := id rfl
theorem e_isi_tyStr_scr (b : List Int) : isiD tyStr.T (.scr b) = some (.bl false) := id rfl
theorem e_isi_tyStr_dic : isiD tyStr.T (.dic []) = some (.bl false) := id rfl
theorem e_isi_tyTuple_non  : isiD tyTuple.T .non = some (.bl false) := id rfl
theorem e_isi_tyTuple_bl (b : Bool) : isiD tyTuple.T (.bl b) = some (.bl false) := id rfl
theorem e_isi_tyTuple_int (b : Int) : isiD tyTuple.T (.int b) = some (.bl false) := id rfl
theorem e_isi_tyTuple_str (b : Str) : isiD tyTuple.T (.str b) = some (.bl false) := id rfl
theorem e_isi_tyTuple_tup (b : List D) : isiD tyTuple.T (.tup b) = some (.bl true) := id rfl
theorem e_isi_tyTuple_lst (b : List D) : isiD tyTuple.T (.lst b) = some (.bl false) := id rfl
theorem e_isi_tyTuple_scr (b : List Int) : isiD tyTuple.T (.scr b) = some (.bl false) := id rfl
theorem e_isi_tyTuple_dic : isiD tyTuple.T (.dic []) = some (.bl false) := id rfl
theorem e_isi_tyList_non  : isiD tyList.T .non = some (.bl false) := id rfl
theorem e_isi_tyList_bl (b : Bool) : isiD tyList.T (.bl b) = some (.bl false) := id rfl
theorem e_isi_tyList_int (b : Int) : isiD tyList.T (.int b) = some (.bl false) := id rfl
theorem e_isi_tyList_str (b : Str) : isiD tyList.T (.str b) = some (.bl false) := id rfl
theorem e_isi_tyList_tup (b : List D) : isiD tyList.T (.tup b) = some (.bl false) := id rfl
theorem e_isi_tyList_lst (b : List D) : isiD tyList.T (.lst b) = some (.bl true) := id rfl
theorem e_isi_tyList_scr (b : List Int) : isiD tyList.T (.scr b) = some (.bl true) := id rfl
theorem e_isi_tyList_dic : isiD tyList.T (.dic []) = some (.bl false) := id rfl
theorem e_isi_tyDict_non  : isiD tyDict.T .non = some (.bl false) := id rfl
theorem e_isi_tyDict_bl (b : Bool) : isiD tyDict.T (.bl b) = some (.bl false) := id rfl
theorem e_isi_tyDict_int (b : Int) : isiD tyDict.T (.int b) = some (.bl false) := id rfl
theorem e_isi_tyDict_str (b : Str) : isiD tyDict.T (.str b) = some (.bl false) := id rfl
theorem e_isi_tyDict_tup (b : List D) : isiD tyDict.T (.tup b) = some (.bl false) := id rfl
theorem e_isi_tyDict_lst (b : List D) : isiD tyDict.T (.lst b) = some (.bl false) := id rfl
theorem e_isi_tyDict_scr (b : List Int) : isiD tyDict.T (.scr b) = some (.bl false) := id rfl
theorem e_isi_tyDict_dic : isiD tyDict.T (.dic []) = some (.bl true) := id rfl
theorem e_isD_non (a : D) : isD a .non = some a.isNon := by cases a <;> rfl
theorem e_tup_n (n : Nat) (u : List D → En → Option En) (ds : List D) (ρ : En) : tupD n u (.tup ds) ρ = if ds.length = n then u ds ρ else none := id rfl
/-! ### rules of loops and calls -/
theorem sp_forGo {tg : D → En → Option En} {body : En → So} {P : Pq} (I : List D → En → Prop) : ∀ {ds : List D} {ρ : En}, I ds ρ →
    (∀ d r ρ, I (d :: r) ρ → OP (tg d ρ) fun ρ1 => (body ρ1).Post ⟨I r, P.nx, I r, P.rt, P.rf, P.er⟩) → (∀ ρ, I [] ρ → P.nx ρ) → (forGo tg body ds ρ).Post P
  | [], ρ, h, _, e => e ρ h
  | d :: ds, ρ, h, st, e => by
    have q := st d ds ρ h
    unfold forGo
    cases ht : tg d ρ with
    | none => rw [ht] at q; exact q.elim
    | some ρ1 =>
      rw [ht] at q
      have q : (body ρ1).Post _ := q
      show So.Post (match body ρ1 with | .nx ρ2 => forGo tg body ds ρ2 | .ct ρ2 => forGo tg body ds ρ2 | .bk ρ2 => .nx ρ2 | o => o) P
      cases hb : body ρ1 with
      | no => rw [hb] at q; exact q.elim
      | nx ρ2 => rw [hb] at q; exact sp_forGo I q st e
      | ct ρ2 => rw [hb] at q; exact sp_forGo I q st e
      | bk ρ2 => rw [hb] at q; exact q
      | rt v ρ2 => rw [hb] at q; exact q
      | rf v ρ2 => rw [hb] at q; exact q
      | er x ρ2 => rw [hb] at q; exact q
theorem sz_forGo {tg : D → En → Option En} {body : En → So} {P : Pq} {z : Lz P} (I : List D → En → Prop) {ds : List D} {ρ : En} (h : I ds ρ)
    (st : ∀ d r ρ, I (d :: r) ρ → OPz (tg d ρ) (fun ρ1 => (body ρ1).Pz (P.lp (I r)) .mk) .mk) (e : ∀ ρ, I [] ρ → P.nx ρ) : (forGo tg body ds ρ).Pz P z := sp_forGo I h st e
theorem sz_for_nil {tg : D → En → Option En} {body : En → So} {P : Pq} {z : Lz P} {ρ : En} : (forGo tg body [] ρ).Pz P z = P.nx ρ := id rfl
theorem sz_for_cons {tg : D → En → Option En} {body : En → So} {P : Pq} {z : Lz P} {ρ : En} {d : D} {ds : List D} : (forGo tg body (d :: ds) ρ).Pz P z =
    OPz (tg d ρ) (fun ρ1 => (body ρ1).Pz (P.lp fun ρ2 => (forGo tg body ds ρ2).Pz P .mk) .mk) .mk := by
  show So.Post (match tg d ρ with
    | none => .no
    | some ρ1 => match body ρ1 with
      | .nx ρ2 => forGo tg body ds ρ2
      | .ct ρ2 => forGo tg body ds ρ2
      | .bk ρ2 => .nx ρ2
      | o => o) P = _
  cases tg d ρ with
  | none => rfl
  | some ρ1 =>
    show So.Post (match body ρ1 with
      | .nx ρ2 => forGo tg body ds ρ2
      | .ct ρ2 => forGo tg body ds ρ2
      | .bk ρ2 => .nx ρ2
      | o => o) P = (body ρ1).Post _
    cases body ρ1 <;> rfl
/-- a while, by an invariant and a measure -/
theorem sp_while {test : En → Out Bool} {body : En → So} {P : Pq} (I : Nat → En → Prop) : ∀ {n : Nat} {ρ : En}, (∃ m, m < n ∧ I m ρ) →
    (∀ m ρ, I m ρ → (test ρ).Post (fun t ρ1 => if t = true then (body ρ1).Post ⟨fun ρ2 => ∃ k, k < m ∧ I k ρ2, P.nx, fun ρ2 => ∃ k, k < m ∧ I k ρ2, P.rt, P.rf, P.er⟩ else P.nx ρ1) P.er) → (whileGo test body n ρ).Post P
  | 0, ρ, ⟨m, h, _⟩, _ => absurd h (Nat.not_lt_zero _)
  | n + 1, ρ, ⟨m, hm, h⟩, st => by
    have q := st m ρ h
    unfold whileGo
    rw [sp_after]
    refine Out.Post.mono q (fun t ρ1 z => ?_) fun x ρ1 z => z
    cases t with
    | false => exact z
    | true =>
      simp only [if_true] at z ⊢
      cases hb : body ρ1 with
      | no => rw [hb] at z; exact z.elim
      | nx ρ2 =>
        rw [hb] at z
        obtain ⟨k, hk, hI⟩ := z
        exact sp_while I ⟨k, by omega, hI⟩ st
      | ct ρ2 =>
        rw [hb] at z
        obtain ⟨k, hk, hI⟩ := z
        exact sp_while I ⟨k, by omega, hI⟩ st
      | bk ρ2 => rw [hb] at z; exact z
      | rt v ρ2 => rw [hb] at z; exact z
      | rf v ρ2 => rw [hb] at z; exact z
      | er x ρ2 => rw [hb] at z; exact z
/-- a comprehension -/
theorem lcGo_post {vs : List Nat} {tg : D → En → Option En} {cond : En → Out Bool} {elt : En → Out D} (I : List D → List D → En → Prop)
    (st : ∀ d r ys ρ, I (d :: r) ys ρ → OP (tg d (wipeE ρ vs)) fun ρ2 => (cond ρ2).Post (fun t ρ3 => if t = true then (elt ρ3).Post (fun y ρ4 => I r (ys ++ [y]) ρ4) (fun _ _ => False) else I r ys ρ3) fun _ _ => False) :
    ∀ {ds ys : List D} {ρ : En}, I ds ys ρ → (lcGo vs tg cond elt ds ρ).Post (fun zs ρ' => I [] (ys ++ zs) ρ') fun _ _ => False
  | [], ys, ρ, h => by
    show I [] (ys ++ []) ρ
    rw [List.append_nil]
    exact h
  | d :: ds, ys, ρ, h => by
    have q := st d ds ys ρ h
    unfold lcGo
    cases ht : tg d (wipeE ρ vs) with
    | none => rw [ht] at q; exact q.elim
    | some ρ1 =>
      rw [ht] at q
      have q : (cond ρ1).Post _ _ := q
      show Out.Post ((cond ρ1).bind _) _ _
      rw [wp_bind]
      refine Out.Post.mono q (fun t ρ3 z => ?_) fun _ _ z => z
      cases t with
      | false =>
        simp only [Bool.false_eq_true, if_false] at z ⊢
        exact lcGo_post I st z
      | true =>
        simp only [if_true] at z ⊢
        rw [wp_bind]
        refine Out.Post.mono z (fun y ρ4 w => ?_) fun _ _ z => z
        rw [wp_bind]
        refine Out.Post.mono (lcGo_post I st w) (fun zs ρ5 u => ?_) fun _ _ z => z
        show I [] (ys ++ (y :: zs)) ρ5
        rw [List.append_assoc] at u
        exact u
theorem wp_lcD {src : En → Out (List D)} {vs : List Nat} {tg : D → En → Option En} {cond : En → Out Bool} {elt : En → Out D} {ρ : En} {Q : List D → En → Prop} {R : Xn → En → Prop}
    (h : (src ρ).Post (fun ds ρ1 => noOwn ρ1 vs = true ∧ ∃ I : List D → List D → En → Prop, I ds [] ρ1 ∧
      (∀ d r ys ρ, I (d :: r) ys ρ → OP (tg d (wipeE ρ vs)) fun ρ2 => (cond ρ2).Post (fun t ρ3 => if t = true then (elt ρ3).Post (fun y ρ4 => I r (ys ++ [y]) ρ4) (fun _ _ => False) else I r ys ρ3) fun _ _ => False) ∧
      ∀ ys ρ', I [] ys ρ' → ys.length ≤ sizeLine ∧ Q ys (backE ρ1 vs ρ')) R) : (lcD src vs tg cond elt ρ).Post Q R := by
  unfold lcD
  rw [wp_bind]
  refine Out.Post.mono h (fun ds ρ1 ⟨h1, I, h2, h3, h4⟩ => ?_) fun _ _ z => z
  rw [if_pos h1, wp_bind]
  have q := lcGo_post (ds := ds) (ys := []) I h3 h2
  cases hg : lcGo vs tg cond elt ds ρ1 with
  | no => rw [hg] at q; exact q.elim
  | er x ρ' => rw [hg] at q; exact q.elim
  | ok zs ρ' =>
    rw [hg] at q
    have q : I [] ([] ++ zs) ρ' := q
    rw [List.nil_append] at q
    obtain ⟨h5, h6⟩ := h4 _ _ q
    show Out.Post (if zs.length ≤ sizeLine then Out.ok zs (backE ρ1 vs ρ') else .no) Q R
    rw [if_pos h5]
    exact h6
theorem pz_lcD {src : En → Out (List D)} {vs : List Nat} {tg : D → En → Option En} {cond : En → Out Bool} {elt : En → Out D} {ρ : En} {Q : List D → En → Prop} {R : Xn → En → Prop} {z : Lz (Q, R)}
    (h : (src ρ).Pz (fun ds ρ1 => noOwn ρ1 vs = true ∧ ∃ I : List D → List D → En → Prop, I ds [] ρ1 ∧
      (∀ d r ys ρ, I (d :: r) ys ρ → OPz (tg d (wipeE ρ vs)) (fun ρ2 => (cond ρ2).Pz (fun t ρ3 => if t = true then (elt ρ3).Pz (fun y ρ4 => I r (ys ++ [y]) ρ4) (fun _ _ => False) .mk else I r ys ρ3) (fun _ _ => False) .mk) .mk) ∧
      ∀ ys ρ', I [] ys ρ' → ys.length ≤ sizeLine ∧ Q ys (backE ρ1 vs ρ')) R .mk) : (lcD src vs tg cond elt ρ).Pz Q R z := wp_lcD h
/-- .. whose tests and elements change nothing, over names that are set in all -/
theorem wp_lcP {src : En → Out (List D)} {vs : List Nat} {tg : D → En → Option En} {cond : En → Out Bool} {elt : En → Out D} {ρ ρ1 : En} {Q : List D → En → Prop} {R : Xn → En → Prop} {ds : List D} (p : D → Bool) (g : D → D) (st : D → En)
    (h1 : src ρ = .ok ds ρ1) (hno : noOwn ρ1 vs = true) (hl : ds.length ≤ sizeLine)
    (ht0 : ∀ d ∈ ds, tg d (wipeE ρ1 vs) = some (st d)) (hw : ∀ d ∈ ds, wipeE (st d) vs = wipeE ρ1 vs) (hb : ∀ d ∈ ds, backE ρ1 vs (st d) = ρ1) (hb0 : backE ρ1 vs ρ1 = ρ1)
    (hc : ∀ d ∈ ds, (cond (st d)).Post (fun t ρ' => t = p d ∧ ρ' = st d) fun _ _ => False) (he : ∀ d ∈ ds, p d = true → (elt (st d)).Post (fun y ρ' => y = g d ∧ ρ' = st d) fun _ _ => False)
    (q : Q ((ds.filter p).map g) ρ1) : (lcD src vs tg cond elt ρ).Post Q R := by
  refine wp_lcD ?_
  rw [h1]
  refine ⟨hno, fun r ys ρ' => ∃ done, ds = done ++ r ∧ ys = (done.filter p).map g ∧ (ρ' = ρ1 ∨ ∃ d ∈ ds, ρ' = st d), ⟨[], rfl, rfl, .inl rfl⟩, ?_, ?_⟩
  · rintro d r ys ρ' ⟨done, e1, e2, e3⟩
    have hd : d ∈ ds := by rw [e1]; simp
    have ew : wipeE ρ' vs = wipeE ρ1 vs := by
      rcases e3 with e3 | ⟨x, hx, e3⟩
      · rw [e3]
      · rw [e3]; exact hw x hx
    rw [ew, ht0 d hd]
    refine Out.Post.mono (hc d hd) (fun t ρ2 ⟨z1, z2⟩ => ?_) fun _ _ z => z
    rw [z1, z2]
    cases hp : p d with
    | false =>
      simp only [Bool.false_eq_true, if_false]
      exact ⟨done ++ [d], by rw [e1]; simp, by rw [e2]; simp [hp], .inr ⟨d, hd, rfl⟩⟩
    | true =>
      simp only [if_true]
      refine Out.Post.mono (he d hd hp) (fun y ρ3 ⟨z3, z4⟩ => ?_) fun _ _ z => z
      rw [z3, z4]
      exact ⟨done ++ [d], by rw [e1]; simp, by rw [e2]; simp [hp], .inr ⟨d, hd, rfl⟩⟩
  · rintro ys ρ' ⟨done, e1, e2, e3⟩
    rw [List.append_nil] at e1
    subst e1
    refine ⟨by rw [e2, List.length_map]; exact Nat.le_trans (List.length_filter_le _ _) hl, ?_⟩
    have eb : backE ρ1 vs ρ' = ρ1 := by
      rcases e3 with e3 | ⟨x, hx, e3⟩
      · rw [e3]; exact hb0
      · rw [e3]; exact hb x hx
    rw [eb, e2]
    exact q
theorem pz_lcP {src : En → Out (List D)} {vs : List Nat} {tg : D → En → Option En} {cond : En → Out Bool} {elt : En → Out D} {ρ ρ1 : En} {Q : List D → En → Prop} {R : Xn → En → Prop} {ds : List D} {z : Lz (Q, R)} (p : D → Bool) (g : D → D) (st : D → En)
    (h1 : src ρ = .ok ds ρ1) (hno : noOwn ρ1 vs = true) (hl : ds.length ≤ sizeLine)
    (ht0 : ∀ d ∈ ds, tg d (wipeE ρ1 vs) = some (st d)) (hw : ∀ d ∈ ds, wipeE (st d) vs = wipeE ρ1 vs) (hb : ∀ d ∈ ds, backE ρ1 vs (st d) = ρ1) (hb0 : backE ρ1 vs ρ1 = ρ1)
    (hc : ∀ d ∈ ds, (cond (st d)).Pz (fun t ρ' => t = p d ∧ ρ' = st d) (fun _ _ => False) .mk) (he : ∀ d ∈ ds, p d = true → (elt (st d)).Pz (fun y ρ' => y = g d ∧ ρ' = st d) (fun _ _ => False) .mk)
    (q : Q ((ds.filter p).map g) ρ1) : (lcD src vs tg cond elt ρ).Pz Q R z := wp_lcP p g st h1 hno hl ht0 hw hb hb0 hc he q
theorem FO.eq_of {o : FO} {r : D} {s : List D} (h : o.Ok fun d os => d = r ∧ os = s) : o = .ok r s := by
  cases o with
  | no => exact h.elim
  | ok d os => rw [h.1, h.2]
  | er x os => exact h.elim
theorem fz_mono {o : FO} {Q Q' : D → List D → Prop} {R' : Xn → List D → Prop} {z : Lz (Q', R')} (h : o.Ok Q) (q : ∀ d os, Q d os → Q' d os) : o.Pz Q' R' z := FO.Ok.mono h q
theorem fz_eq {o : FO} {d : D} {os : List D} {Q' : D → List D → Prop} {R' : Xn → List D → Prop} {z : Lz (Q', R')} (h : o = .ok d os) : o.Pz Q' R' z = Q' d os := by rw [h]; rfl
/-- a def -/
theorem fo_den (d : Df) {ds : List D} {Q : D → List D → Prop} {R : Xn → List D → Prop} : (d.den ds).Post Q R = (d.body.den (startE d.N.length d.io ds)).Post
    ⟨fun ρ => d.fresh = false ∧ OP (outsE d.io ρ) fun os => Q .non os, fun _ => False, fun _ => False, fun v ρ => d.fresh = false ∧ OP (outsE d.io ρ) fun os => Q v os, fun v ρ => OP (outsE d.io ρ) fun os => Q (.lst v) os, fun x ρ => OP (outsE d.io ρ) fun os => R x os⟩ := by
  unfold Df.den endS
  cases d.body.den (startE d.N.length d.io ds) with
  | no => rfl
  | bk ρ => rfl
  | ct ρ => rfl
  | nx ρ => cases d.fresh <;> cases h : outsE d.io ρ <;> simp [h, FO.Post, So.Post, OP]
  | rt v ρ => cases d.fresh <;> cases h : outsE d.io ρ <;> simp [h, FO.Post, So.Post, OP]
  | rf v ρ => cases h : outsE d.io ρ <;> simp [h, FO.Post, So.Post, OP]
  | er v ρ => cases h : outsE d.io ρ <;> simp [h, FO.Post, So.Post, OP]
/-- what is wanted behind a def's body -/
def Pq.df (d : Df) (Q : D → List D → Prop) (R : Xn → List D → Prop) : Pq := ⟨fun ρ => d.fresh = false ∧ OPz (outsE d.io ρ) (fun os => Q .non os) .mk, fun _ => False, fun _ => False, fun v ρ => d.fresh = false ∧ OPz (outsE d.io ρ) (fun os => Q v os) .mk, fun v ρ => OPz (outsE d.io ρ) (fun os => Q (.lst v) os) .mk, fun x ρ => OPz (outsE d.io ρ) (fun os => R x os) .mk⟩
section
variable {d : Df} {Q : D → List D → Prop} {R : Xn → List D → Prop} {ρ : En}
theorem df_nx : (Pq.df d Q R).nx ρ = (d.fresh = false ∧ OPz (outsE d.io ρ) (fun os => Q .non os) .mk) := id rfl
theorem df_rt {v : D} : (Pq.df d Q R).rt v ρ = (d.fresh = false ∧ OPz (outsE d.io ρ) (fun os => Q v os) .mk) := id rfl
theorem df_rf {v : List D} : (Pq.df d Q R).rf v ρ = OPz (outsE d.io ρ) (fun os => Q (.lst v) os) .mk := id rfl
theorem df_er {x : Xn} : (Pq.df d Q R).er x ρ = OPz (outsE d.io ρ) (fun os => R x os) .mk := id rfl
end
theorem fz_den (d : Df) {ds : List D} {Q : D → List D → Prop} {R : Xn → List D → Prop} : (d.den ds).Post Q R = (d.body.den (startE d.N.length d.io ds)).Pz (Pq.df d Q R) .mk := fo_den d
theorem fo_cden (d : Cf) {ds : List D} {Q : D → List D → Prop} {R : Xn → List D → Prop} : (d.den ds).Post Q R = (d.body.den (startE d.N.length [] ds)).Post (fun v _ => Q v []) fun x _ => R x [] := by
  unfold Cf.den endS
  cases d.body.den (startE d.N.length [] ds) <;> simp [So.after, outsE, FO.Post, Out.Post]
theorem fz_cden (d : Cf) {ds : List D} {Q : D → List D → Prop} {R : Xn → List D → Prop} {z : Lz (Q, R)} : (d.den ds).Pz Q R z = (d.body.den (startE d.N.length [] ds)).Pz (fun v _ => Q v []) (fun x _ => R x []) .mk := fo_cden d
theorem sem_den (d : Df) : d.sem.den = d.den := rfl
theorem sem_io (d : Df) : d.sem.io = d.io := rfl
theorem sem_fresh (d : Df) : d.sem.fresh = d.fresh := rfl
theorem sem_ar (d : Df) : d.sem.ar = d.ps.length := rfl
theorem csem_den (d : Cf) : d.sem.den = d.den := rfl
theorem csem_io (d : Cf) : d.sem.io = [] := rfl
theorem csem_fresh (d : Cf) : d.sem.fresh = false := rfl
theorem csem_ar (d : Cf) : d.sem.ar = d.ps.length := rfl
theorem sizeLine_is : sizeLine = 16777216 := rfl

end Ev
set_option Elab.async false
set_option maxRecDepth 100000
set_option maxHeartbeats 4000000
/-! EvZ: more new lists, own.pop(e), defs that call themselves, comprehensions of two fors. -/
namespace Ev
open PySem PySem.Spec PyProof.Rows L2

/-- a + b, two lists: a new one -/
def catL : D → D → Option (List D)
  | .lst a, .lst b => if a.length + b.length ≤ sizeLine then some (a ++ b) else none
  | _, _ => none
def Fx.add (a b : Ex) : Fx := .of (fun ρ => (a.den ρ).bind fun x ρ1 => (b.den ρ1).bind fun y ρ2 => Out.lift (catL x y) ρ2) (fun k x => match x with | .BinOp x o y _ => decide (o = .Add) && a.chk k x && b.chk k y | _ => false) (a.need.app b.need) (fun {X L A W lev k} c n x h => by
  cases x with
  | BinOp x o y pos =>
    have h : (decide (o = .Add) && a.chk k x && b.chk k y) = true := h
    simp only [Bool.and_eq_true, decide_eq_true_eq] at h
    obtain ⟨⟨rfl, h1⟩, h2⟩ := h
    refine PE.weak (pe_op op_cat (a.ok c n.left x h1) (b.ok c n.right y h2)) fun σ H Q ⟨ρ, O, s, q⟩ => ?_
    refine tS_bind s q fun d ρ1 v H1 O1 e1 s1 r1 hk => ?_
    refine tS_bind s1 hk fun e ρ2 w H2 O2 e2 s2 r2 hk2 => ?_
    obtain ⟨zs, hz, hk2⟩ := post_lift hk2
    have r1' := r1.ext e2
    unfold catL at hz
    split at hz
    · split at hz
      · rename_i hl
        cases hz
        obtain ⟨p1, xs, rfl, g1, g2, g3⟩ := r1'.lstH
        obtain ⟨p2, ys, rfl, g4, g5, g6⟩ := r2.lstH
        refine ⟨p1, p2, xs, ys, rfl, rfl, g1, g4, by rw [g3.length, g6.length]; exact hl, fun p hp => ?_⟩
        exact tN_new s2 hp (g3.append g6) (e1.trans e2) hk2
      · cases hz
    · cases hz
  | _ => cases h) (fun k x h => by cases x <;> first | rfl | cases h) (fun k x h => by cases x <;> first | rfl | cases h)
/-- list(e): a new one -/
def listL : D → Option (List D)
  | .lst a => some a
  | .tup a => some a
  | .scr ns => some (ns.map .int)
  | _ => none
def Fx.list (a : Ex) : Fx := .of (fun ρ => (a.den ρ).bind fun x ρ1 => Out.lift (listL x) ρ1) (bltChk "list" (.cons a .nil)) a.need (fun {X L A W lev k} c n x h => by
  unfold bltChk at h
  split at h
  · rename_i y z es pos
    simp only [Bool.and_eq_true, decide_eq_true_eq] at h
    obtain ⟨⟨⟨⟨rfl, g1⟩, g2⟩, g3⟩, g4⟩ := h
    cases es with
    | cons _ _ =>
      have g4 : (notStar z && a.chk k z && false) = true := g4
      rw [Bool.and_false] at g4
      cases g4
    | nil =>
      have g4 : (notStar z && a.chk k z && true) = true := g4
      rw [Bool.and_true, Bool.and_eq_true] at g4
      have g4 := g4.2
      obtain ⟨c1, _, _⟩ := c.glOk g1
      refine PE.weak (pe_callTy call_list_of c1 (c.blt _ fList.hb) fList.hv (pa_cons (a.ok c n z g4) pa_nil (starEach_cons g2)) fList.hn fList.hd (starEach_cons g2) (noStars g3)) fun σ H Q ⟨ρ, O, s, q⟩ => ?_
      refine tS_bind s q fun d ρ1 v H1 O1 e1 s1 r1 hk => ?_
      obtain ⟨zs, hz, hk⟩ := post_lift hk
      unfold listL at hz
      split at hz
      · cases hz
        obtain ⟨p, xs, rfl, g1, g2, g3⟩ := r1.lstH
        exact ⟨p, xs, rfl, .inl (SqL.of g1), fun l hl => tN_new s1 hl g3 e1 hk⟩
      · cases hz
        obtain ⟨p, xs, rfl, g1, g3⟩ := r1.tupSq
        exact ⟨p, xs, rfl, .inr g1, fun l hl => tN_new s1 hl g3 e1 hk⟩
      · cases hz
        obtain ⟨p, rfl, g1⟩ := r1.scrSq
        exact ⟨p, _, rfl, .inl g1, fun l hl => tN_new s1 hl (reps_ints _) e1 hk⟩
      · cases hz
  · cases h) (fun k x h => by unfold bltChk at h; split at h <;> first | rfl | cases h) (fun k x h => by unfold bltChk at h; split at h <;> first | rfl | cases h)
/-- own.pop(e) -/
def popD (i : Nat) (d : D) (ρ : En) : Out D := match lstAt ρ i, d with
  | some ds, .int j => if -(2 ^ 63) ≤ j ∧ j < 2 ^ 63 then (match seqIndex? j ds.length with
    | some k => (match ds[k]? with | some y => .ok y (ρ.set i (.o (.lst (ds.eraseIdx k)))) | none => .no)
    | none => .no) else .no
  | _, _ => .no
def Ex.pop (i : Nat) (e : Ex) : Ex := .plain (fun ρ => if isOwn ρ i = true then (e.den ρ).bind (popD i) else .no) (fun k x => match x with | .Call (.Attribute (.Name y _) m apos) [x] [] cpos => decide (m = "pop") && k.vis i y && notStar x && decide (apos.endLine = cpos.line) && e.chk k x | _ => false) e.need (fun {X L A W lev k} c n x h => by
    split at h
    · rename_i y p1 m apos x cpos
      simp only [Bool.and_eq_true, decide_eq_true_eq] at h
      obtain ⟨⟨⟨⟨rfl, h1⟩, h2⟩, h3⟩, h4⟩ := h
      obtain ⟨c1, c2, c3, c4⟩ := c.visOk h1
      have pa : [x].all notStar = true := by rw [List.all_cons, h2]; rfl
      refine PE.weak (pe_bm PySem.F.plainAttrs_list PySem.F.slot_list_pop PySem.F.type_list_pop mt_popAt (pe_var c1 c2 c3 c4) (pa_cons (e.ok c n x h4) pa_nil (starEach_cons h2)) (base_of rfl) (few_of pa (by simp)) (by simp [h3]) (starEach_cons h2) rfl) fun σ H Q ⟨ρ, O, s, q⟩ => ?_
      dsimp only at q
      split at q
      · rename_i ho
        unfold isOwn at ho
        split at ho
        · rename_i d0 h0
          obtain ⟨p, hp, ⟨xs0, ds0, _, _, g0, _⟩, _⟩ := s.own i d0 h0
          refine ⟨_, hp, .inl ⟨rfl, xs0, SqL.of g0⟩, ρ, O, s, (Out.post_bind q).mono (fun d ρ1 z v H' O' e' s' r => ?_) fun _ _ z => z⟩
          unfold popD at z
          split at z
          · rename_i ds j hds
            split at z
            · rename_i hj
              split at z
              · rename_i m hm
                split at z
                · rename_i w hw
                  obtain ⟨p', hp', ⟨xs, es, g1, g2, g3, g4⟩, _⟩ := s'.own i _ (lstAt_eq hds)
                  rw [hp] at hp'
                  cases hp'
                  cases g1
                  obtain ⟨u, hu, ru⟩ := g4.getD hw
                  obtain ⟨e2, s2⟩ := s'.write (lstAt_eq hds) hp (g4.eraseIdx m)
                  cases r
                  exact ⟨p, xs, j, m, u, rfl, rfl, g3, hj.1, hj.2, by rw [g4.length]; exact hm, hu, z u _ O' (e'.trans e2) s2 (ru.ext e2)⟩
                · exact z.elim
              · exact z.elim
            · exact z.elim
          · exact z.elim
        · cases ho
      · exact q.elim
    · cases h) (fun k x h => by split at h <;> first | rfl | cases h)

/-! ### comprehensions of two fors -/
def lc2Go (vs vs1 : List Nat) (tg : D → En → Option En) (cond : En → Out Bool) (src1 : En → Out (List D)) (tg1 : D → En → Option En) (cond1 : En → Out Bool) (elt : En → Out D) : List D → En → Out (List D)
  | [], ρ => .ok [] ρ
  | d :: ds, ρ => match tg d (wipeE ρ vs) with
    | none => .no
    | some ρ1 => (cond ρ1).bind fun b ρ2 => if b = true then (src1 ρ2).bind fun es ρ3 => (lcGo vs1 tg1 cond1 elt es ρ3).bind fun ys ρ4 => (lc2Go vs vs1 tg cond src1 tg1 cond1 elt ds ρ4).bind fun zs ρ5 => .ok (ys ++ zs) ρ5 else lc2Go vs vs1 tg cond src1 tg1 cond1 elt ds ρ2
def lc2D (src : En → Out (List D)) (vs vs1 : List Nat) (tg : D → En → Option En) (cond : En → Out Bool) (src1 : En → Out (List D)) (tg1 : D → En → Option En) (cond1 : En → Out Bool) (elt : En → Out D) : En → Out (List D) := fun ρ =>
  (src ρ).bind fun ds ρ1 => if noOwn ρ1 vs = true then (lc2Go vs vs1 tg cond src1 tg1 cond1 elt ds ρ1).clean.bind fun ys ρ2 => if ys.length ≤ sizeLine then .ok ys (backE ρ1 vs ρ2) else .no else .no
theorem wipe_wipe {σ : L2.St} {vs vs1 : List Nat} (h : ∀ i ∈ vs1, i ∈ vs) : wipe (wipe σ vs1) vs = wipe σ vs := by
  refine List.ext_getElem? fun i => ?_
  by_cases hi : i ∈ vs
  · by_cases hlt : i < σ.length
    · rw [wipe_in hi (by rw [wipe_length]; exact hlt), wipe_in hi hlt]
    · rw [List.getElem?_eq_none (by rw [wipe_length, wipe_length]; omega), List.getElem?_eq_none (by rw [wipe_length]; omega)]
  · rw [wipe_out hi, wipe_out hi, wipe_out (fun z => hi (h i z))]
theorem wipeE_get (ρ : En) (vs : List Nat) (i : Nat) : (wipeE ρ vs)[i]? = if i ∈ vs then (ρ[i]?).map fun _ => Sl.n else ρ[i]? := by
  induction vs with
  | nil => rfl
  | cons v vs ih =>
    show ((wipeE ρ vs).set v .n)[i]? = _
    rw [List.getElem?_set]
    by_cases hv : v = i
    · subst hv
      rw [if_pos rfl, if_pos List.mem_cons_self, wipeE_length]
      by_cases hl : v < ρ.length
      · rw [if_pos hl, List.getElem?_eq_getElem hl]; rfl
      · rw [if_neg hl, List.getElem?_eq_none (by omega)]; rfl
    · rw [if_neg hv, ih]
      by_cases hi : i ∈ vs
      · rw [if_pos hi, if_pos (List.mem_cons_of_mem _ hi)]
      · rw [if_neg hi, if_neg (fun z => by rcases List.mem_cons.mp z with z | z; exact hv z.symm; exact hi z)]
theorem wipeE_wipeE {ρ : En} {vs vs1 : List Nat} (h : ∀ i ∈ vs1, i ∈ vs) : wipeE (wipeE ρ vs1) vs = wipeE ρ vs := by
  refine List.ext_getElem? fun i => ?_
  rw [wipeE_get, wipeE_get, wipeE_get]
  by_cases hi : i ∈ vs
  · rw [if_pos hi, if_pos hi]
    split
    · cases ρ[i]? <;> rfl
    · rfl
  · rw [if_neg hi, if_neg hi, if_neg (fun z => hi (h i z))]
section
variable {X : Cx} {L : Lx} {A : An}
abbrev tAnyI (Z : Zx) (f : En → Out (List D)) : TI := fun σ H R => ∃ A, tI Z A W0 f σ H R
theorem pi_ex {X : Cx} {tg x : Expr} {t : An → TI} (h : ∀ A, PI X tg x (t A)) : PI X tg x (fun σ H Q => ∃ A, t A σ H Q) := ⟨fun pins s σ H R I ⟨A, q⟩ => (h A).run pins s σ H R I q⟩
/-- one turn of a loop of one for, whatever is wanted at its end -/
theorem lc_turn {t : Tg} {cs : Cs} {e : Ex} {vs : List Nat} (hs : ∀ i ∈ t.sl, i ∈ vs) {σ : L2.St} {p : Addr} {K : List D → En → Prop} {H1 : Hp} {O1 : List Addr} {ds : List D} {J : It} (wk : Wk (zx X L) J ds H1 O1) (hAp : A.H p = none) (hvs : ∀ q ∈ A.io, q.1 ∉ vs) (i m : Nat) (H3 : Hp)
    (w : m = ds.length - i ∧ i ≤ ds.length ∧ lcT (zx X L) A σ vs p K H1 O1 (lcGo vs t.den cs.den e.den (ds.drop i)) H3) :
    (i = ds.length ∧ J.stop i H3) ∨ (J.go i H3 ∧ ∃ Nx : Hp → Prop, (∀ H', Nx H' → ∃ m', m' < m ∧ (m' = ds.length - (i + 1) ∧ i + 1 ≤ ds.length ∧ lcT (zx X L) A σ vs p K H1 O1 (lcGo vs t.den cs.den e.den (ds.drop (i + 1))) H')) ∧
      ∀ x H', J.yld i H3 x H' → gAny (zx X L) t.den t.sl x (wipe σ vs) H' fun σ2 H2 => wipe σ2 vs = wipe σ vs ∧ tAnyT (zx X L) cs.den σ2 H2 fun b H3 =>
        if b = true then tAnyE (zx X L) e.den σ2 H3 fun y H4 => ∃ acc, H4 p = some (.lst acc) ∧ acc.length < sizeLine ∧ Nx (upd H4 p (.lst (acc ++ [y]))) else Nx H3) := by
  obtain ⟨rfl, hi, ρ3, O3, acc, es, e3, s3, hpO3, hpH, racc, nown, hw⟩ := w
  obtain ⟨w1, w2, w3⟩ := wk H3 O3 e3 s3.trk
  by_cases hlt : i < ds.length
  case neg =>
    have : i = ds.length := by omega
    subst this
    exact .inl ⟨rfl, w2⟩
  refine .inr ⟨w1 i hlt, lcT (zx X L) A σ vs p K H1 O1 (lcGo vs t.den cs.den e.den (ds.drop (i + 1))), fun H' w => ⟨ds.length - (i + 1), by omega, rfl, hlt, w⟩, fun v H4 y => ?_⟩
  have hdr : ds.drop i = ds[i] :: ds.drop (i + 1) := (List.getElem_cons_drop hlt).symm
  rw [hdr] at hw
  obtain ⟨sm, rv⟩ := w3 i v H4 ds[i] (List.getElem?_eq_getElem hlt) y
  have hw : (match t.den ds[i] (wipeE ρ3 vs) with
    | none => Out.no
    | some ρ1 => (cs.den ρ1).bind fun b ρ2 => if b = true then (e.den ρ2).bind fun y ρ3 => (lcGo vs t.den cs.den e.den (ds.drop (i + 1)) ρ3).bind fun ys ρ4 => .ok (y :: ys) ρ4 else lcGo vs t.den cs.den e.den (ds.drop (i + 1)) ρ2 : Out (List D)).Post (fun ys ρ' => es.length + ys.length ≤ sizeLine ∧ K (es ++ ys) ρ') (fun _ _ => False) := hw
  split at hw
  · exact hw.elim
  rename_i ρ4 htd
  have s4 := s3.same sm
  have x4 := Ext.same (O := O3) sm
  have hpW : p ∉ (here H4 O3 (wipe σ vs) (wipeE ρ3 vs)).W := fun z => by
    obtain ⟨j, d, g1, g2⟩ := here_W.mp z
    exact nown j d g1 g2
  have keep : ∀ {H5 : Hp} {O5 : List Addr} {σ2 : L2.St} {ρ5 : En}, SR (zx X L) (here H4 O3 (wipe σ vs) (wipeE ρ3 vs)) H5 O5 σ2 ρ5 → wipe σ2 vs = wipe σ vs → SR (zx X L) A H5 O5 (wipe σ vs) (wipeE ρ5 vs) ∧ p ∈ O5 ∧ H5 p = some (.lst acc) ∧ (∀ (j : Nat) (d : D), (wipeE ρ5 vs)[j]? = some (.o d) → (wipe σ vs)[j]? ≠ some (some (.ref p))) := fun {H5 O5 σ2 ρ5} s5 hw5 => by
    have hp5 := s5.anc p (.lst acc) (sm _ _ hpH) hpW (fun ps z => nomatch z)
    refine ⟨?_, s5.sub p hpO3, hp5, fun j d g1 g2 => ?_⟩
    · rw [← hw5]
      exact (s4.un s5).wipe hvs
    · rw [← hw5] at g2
      by_cases hj : j ∈ vs
      · have := wipeE_in hj g1
        cases this
      · rw [wipeE_out hj] at g1
        rw [wipe_out hj] at g2
        obtain ⟨a, q1, _, q2⟩ := s5.own j d g1
        rw [g2] at q1
        cases q1
        rcases q2 with q2 | ⟨q2, _⟩
        · exact hpW q2
        · rw [show (here H4 O3 (wipe σ vs) (wipeE ρ3 vs)).H p = H4 p from rfl, sm _ _ hpH] at q2
          cases q2
  refine ⟨here H4 O3 (wipe σ vs) (wipeE ρ3 vs), wipeE ρ3 vs, O3, ds[i], ρ4, s4.re, rv, htd, fun σ2 H5 O5 e5 s5 l5 g5 => ?_⟩
  have hw5 : wipe σ2 vs = wipe σ vs := wipe_eq l5 g5 hs
  refine ⟨hw5, _, ρ4, O5, s5, (Out.post_bind hw).mono (fun b ρ6 hk6 H6 O6 e6 s6 => ?_) fun _ _ z => z.elim⟩
  obtain ⟨sA6, hp6, hpH6, no6⟩ := keep s6 hw5
  have x6 : Ext H1 O1 H6 O6 := ((e3.trans x4).trans e5).trans e6
  cases b with
  | false =>
    rw [if_neg Bool.false_ne_true] at hk6 ⊢
    exact ⟨ρ6, O6, acc, es, x6, sA6, hp6, hpH6, racc.ext ((x4.trans e5).trans e6), no6, hk6⟩
  | true =>
    rw [if_pos rfl] at hk6 ⊢
    refine ⟨_, ρ6, O6, s6, (Out.post_bind hk6).mono (fun y ρ7 hk7 w H7 O7 e7 s7 rw7 => ?_) fun _ _ z => z.elim⟩
    obtain ⟨sA7, hp7, hpH7, no7⟩ := keep s7 hw5
    have hk7 := Out.post_bind hk7
    have rac7 : Reps (zx X L) H7 O7 (acc ++ [w]) (es ++ [y]) := (racc.ext (((x4.trans e5).trans e6).trans e7)).append (.cons rw7 .nil)
    have hlen : acc.length < sizeLine := by
      have hb : ∀ {o : Out (List D)}, o.Post (fun ys ρ' => es.length + (y :: ys).length ≤ sizeLine ∧ K (es ++ y :: ys) ρ') (fun _ _ => False) → acc.length < sizeLine := fun {o} z => by
        cases o with
        | no => exact z.elim
        | er _ _ => exact z.elim
        | ok ys ρ' =>
          have z1 := z.1
          rw [List.length_cons] at z1
          rw [racc.length]
          omega
      exact hb hk7
    obtain ⟨e8, s8⟩ := sA7.poke (ys := acc ++ [w]) hp7 hAp hpH7 no7
    refine ⟨acc, hpH7, hlen, ρ7, O7, acc ++ [w], es ++ [y], (x6.trans e7).trans e8, s8, hp7, upd_same, rac7.ext e8, no7, hk7.mono (fun ys ρ' z => ?_) fun _ _ z => z⟩
    have z : es.length + (y :: ys).length ≤ sizeLine ∧ K (es ++ y :: ys) ρ' := z
    rw [List.length_append, List.append_assoc]
    simp only [List.length_cons, List.length_nil] at z ⊢
    exact ⟨by omega, z.2⟩
theorem lc2_read {W : WX} {src : Sr} {t : Tg} {cs : Cs} {src1 : Sr} {t1 : Tg} {cs1 : Cs} {e : Ex} {vs vs1 : List Nat} (hs : ∀ i ∈ t.sl, i ∈ vs) (hs1 : ∀ i ∈ t1.sl, i ∈ vs1) (hv : ∀ i ∈ vs1, i ∈ vs) {σ : L2.St} {H : Hp} {Q : VK} (q : tN (zx X L) A W (lc2D src.den vs vs1 t.den cs.den src1.den t1.den cs1.den e.den) σ H Q) :
    tLc2 (tI (zx X L) A W src.den) (gAny (zx X L) t.den t.sl) (tAnyT (zx X L) cs.den) (tAnyI (zx X L) src1.den) (gAny (zx X L) t1.den t1.sl) (tAnyT (zx X L) cs1.den) (tAnyE (zx X L) e.den) vs vs1 σ H Q := by
  obtain ⟨ρ, O, s, q⟩ := q
  refine ⟨ρ, O, s, (Out.post_bind q).mono (fun ds ρ1 hk J H1 O1 e1 s1 wk p hp => ?_) fun _ _ z => z⟩
  split at hk
  case isFalse => exact hk.elim
  rename_i hno
  have hk := (Out.post_clean (Out.post_bind hk))
  have hvs : ∀ q ∈ A.io, q.1 ∉ vs := fun q hq z => by
    obtain ⟨_, d, h2⟩ := s1.io q hq
    exact noOwn_at hno z d h2
  have hvs1 : ∀ q ∈ A.io, q.1 ∉ vs1 := fun q hq z => hvs q hq (hv _ z)
  have hAp : A.H p = none := by
    cases q : A.H p with
    | none => rfl
    | some u => exact absurd hp (s1.dom p (by rw [q]; exact fun z => nomatch z))
  have hpO : p ∉ O1 := s1.fresh hp
  have hAO : p ∉ A.O := fun z => hpO (s1.sub p z)
  obtain ⟨e2, s2⟩ := s1.grow (xs := []) hp
  let K : List D → En → Prop := fun ys ρ2 => ((if ys.length ≤ sizeLine then Out.ok ys (backE ρ1 vs ρ2) else .no : Out (List D))).Post (fun ds ρ' => ∀ p xs H' O', Ext H O H' O' → A.H p = none → p ∉ A.O → p ∈ O' → (∀ (j : Nat) (d : D), ρ'[j]? = some (.o d) → σ[j]? ≠ some (some (.ref p))) → H' p = some (.lst xs) → SR (zx X L) A H' O' σ ρ' → Reps (zx X L) H' O' xs ds → Q (.ref p) H') (ErP (zx X L) A W H O)
  refine ⟨fun i m H => m = ds.length - i ∧ i ≤ ds.length ∧ lcT (zx X L) A σ vs p K H1 O1 (lc2Go vs vs1 t.den cs.den src1.den t1.den cs1.den e.den (ds.drop i)) H, ⟨ds.length, by simp, Nat.zero_le _, ρ1, p :: O1, [], [], e2, s2.wipe hvs, List.mem_cons_self, upd_same, .nil, fun j d h1 h2 => ?_, ?_⟩, ?_⟩
  · by_cases hj : j ∈ vs
    · have := wipeE_in hj h1
      cases this
    · rw [wipeE_out hj] at h1
      rw [wipe_out hj] at h2
      obtain ⟨a, g1, ⟨_, _, _, g2, _⟩, _⟩ := s1.own j d h1
      rw [h2] at g1
      cases g1
      exact hpO g2
  · refine hk.mono (fun ys ρ2 z => ?_) fun _ _ z => z
    refine ⟨?_, z⟩
    simp only [List.length_nil, Nat.zero_add]
    by_cases hz : ys.length ≤ sizeLine
    · exact hz
    · rw [if_neg hz] at z
      exact z.elim
  rintro i m H3 ⟨rfl, hi, ρ3, O3, acc, es, e3, s3, hpO3, hpH, racc, nown, hw⟩
  obtain ⟨w1, w2, w3⟩ := wk H3 O3 e3 s3.trk
  by_cases hlt : i < ds.length
  case neg =>
    have : i = ds.length := by omega
    subst this
    refine .inl ⟨w2, ?_⟩
    rw [List.drop_length] at hw
    obtain ⟨hz, hK⟩ := hw
    rw [List.append_nil] at hK
    have hz : es.length ≤ sizeLine := hz
    have hK : (if es.length ≤ sizeLine then Out.ok es (backE ρ1 vs ρ3) else .no : Out (List D)).Post _ _ := hK
    rw [if_pos hz] at hK
    have sb := s3.back s1 e3 hno
    refine hK p acc H3 O3 (e1.trans e3) hAp hAO hpO3 (fun j d h1 h2 => ?_) hpH sb racc
    by_cases hj : j ∈ vs
    · have z := backE_in hj h1
      cases q : ρ1[j]? with
      | none => rw [q] at z; cases z
      | some u =>
        rw [q] at z
        have z : Sl.o d = u := z
        exact noOwn_at hno hj d (by rw [q, z])
    · rw [backE_out hj, ← wipeE_out hj] at h1
      rw [← wipe_out hj] at h2
      exact nown j d h1 h2
  let NX : Hp → Prop := lcT (zx X L) A σ vs p K H1 O1 (lc2Go vs vs1 t.den cs.den src1.den t1.den cs1.den e.den (ds.drop (i + 1)))
  refine .inr ⟨w1 i hlt, NX, fun H' w => ⟨ds.length - (i + 1), by omega, rfl, hlt, w⟩, fun v H4 y => ?_⟩
  have hdr : ds.drop i = ds[i] :: ds.drop (i + 1) := (List.getElem_cons_drop hlt).symm
  rw [hdr] at hw
  obtain ⟨sm, rv⟩ := w3 i v H4 ds[i] (List.getElem?_eq_getElem hlt) y
  have hw : (match t.den ds[i] (wipeE ρ3 vs) with
    | none => Out.no
    | some ρ1 => (cs.den ρ1).bind fun b ρ2 => if b = true then (src1.den ρ2).bind fun es ρ3 => (lcGo vs1 t1.den cs1.den e.den es ρ3).bind fun ys ρ4 => (lc2Go vs vs1 t.den cs.den src1.den t1.den cs1.den e.den (ds.drop (i + 1)) ρ4).bind fun zs ρ5 => .ok (ys ++ zs) ρ5 else lc2Go vs vs1 t.den cs.den src1.den t1.den cs1.den e.den (ds.drop (i + 1)) ρ2 : Out (List D)).Post (fun ys ρ' => es.length + ys.length ≤ sizeLine ∧ K (es ++ ys) ρ') (fun _ _ => False) := hw
  split at hw
  · exact hw.elim
  rename_i ρ4 htd
  have s4 := s3.same sm
  have x4 := Ext.same (O := O3) sm
  have hpW : p ∉ (here H4 O3 (wipe σ vs) (wipeE ρ3 vs)).W := fun z => by
    obtain ⟨j, d, g1, g2⟩ := here_W.mp z
    exact nown j d g1 g2
  have nown1 : ∀ {H5 : Hp} {O5 : List Addr} {σ2 : L2.St} {ρ5 : En}, SR (zx X L) (here H4 O3 (wipe σ vs) (wipeE ρ3 vs)) H5 O5 σ2 ρ5 → ∀ (j : Nat) (d : D), ρ5[j]? = some (.o d) → σ2[j]? ≠ some (some (.ref p)) := fun {H5 O5 σ2 ρ5} s5 j d g1 g2 => by
    obtain ⟨a, q1, _, q2⟩ := s5.own j d g1
    rw [g2] at q1
    cases q1
    rcases q2 with q2 | ⟨q2, _⟩
    · exact hpW q2
    · rw [show (here H4 O3 (wipe σ vs) (wipeE ρ3 vs)).H p = H4 p from rfl, sm _ _ hpH] at q2
      cases q2
  have keep : ∀ {H5 : Hp} {O5 : List Addr} {σ2 : L2.St} {ρ5 : En}, SR (zx X L) (here H4 O3 (wipe σ vs) (wipeE ρ3 vs)) H5 O5 σ2 ρ5 → wipe σ2 vs = wipe σ vs → SR (zx X L) A H5 O5 (wipe σ vs) (wipeE ρ5 vs) ∧ p ∈ O5 ∧ H5 p = some (.lst acc) ∧ (∀ (j : Nat) (d : D), (wipeE ρ5 vs)[j]? = some (.o d) → (wipe σ vs)[j]? ≠ some (some (.ref p))) := fun {H5 O5 σ2 ρ5} s5 hw5 => by
    have hp5 := s5.anc p (.lst acc) (sm _ _ hpH) hpW (fun ps z => nomatch z)
    refine ⟨?_, s5.sub p hpO3, hp5, fun j d g1 g2 => ?_⟩
    · rw [← hw5]
      exact (s4.un s5).wipe hvs
    · rw [← hw5] at g2
      by_cases hj : j ∈ vs
      · have := wipeE_in hj g1
        cases this
      · rw [wipeE_out hj] at g1
        rw [wipe_out hj] at g2
        exact nown1 s5 j d g1 g2
  refine ⟨here H4 O3 (wipe σ vs) (wipeE ρ3 vs), wipeE ρ3 vs, O3, ds[i], ρ4, s4.re, rv, htd, fun σ2 H5 O5 e5 s5 l5 g5 => ?_⟩
  have hw5 : wipe σ2 vs = wipe σ vs := wipe_eq l5 g5 hs
  refine ⟨hw5, _, ρ4, O5, s5, (Out.post_bind hw).mono (fun b ρ6 hk6 H6 O6 e6 s6 => ?_) fun _ _ z => z.elim⟩
  have x6 : Ext H1 O1 H6 O6 := ((e3.trans x4).trans e5).trans e6
  cases b with
  | false =>
    obtain ⟨sA6, hp6, hpH6, no6⟩ := keep s6 hw5
    simp only [Bool.false_eq_true, if_false] at hk6 ⊢
    exact ⟨ρ6, O6, acc, es, x6, sA6, hp6, hpH6, racc.ext ((x4.trans e5).trans e6), no6, hk6⟩
  | true =>
    simp only [if_true] at hk6 ⊢
    refine ⟨_, ρ6, O6, s6, (Out.post_bind hk6).mono (fun es1 ρ7 hk7 J1 H7 O7 e7 s7 wk1 => ?_) fun _ _ z => z.elim⟩
    have sA7 : SR (zx X L) A H7 O7 σ2 ρ7 := s4.un s7
    obtain ⟨_, hp7, hpH7, _⟩ := keep s7 hw5
    have no7 := nown1 s7
    have x7 : Ext H1 O1 H7 O7 := x6.trans e7
    have rac7 : Reps (zx X L) H7 O7 acc es := racc.ext (((x4.trans e5).trans e6).trans e7)
    -- what is wanted behind the second loop
    let K1 : List D → En → Prop := fun ys ρ' => (lc2Go vs vs1 t.den cs.den src1.den t1.den cs1.den e.den (ds.drop (i + 1)) ρ').Post (fun zs ρ'' => ys.length + zs.length ≤ sizeLine ∧ K (ys ++ zs) ρ'') fun _ _ => False
    refine ⟨fun j k H => k = es1.length - j ∧ j ≤ es1.length ∧ lcT (zx X L) A σ2 vs1 p K1 H7 O7 (lcGo vs1 t1.den cs1.den e.den (es1.drop j)) H, ⟨es1.length, by simp, Nat.zero_le _, ρ7, O7, acc, es, Ext.refl _ _, sA7.wipe hvs1, hp7, hpH7, rac7, fun j d g1 g2 => ?_, ?_⟩, fun j k H8 w8 => ?_⟩
    · by_cases hj : j ∈ vs1
      · have := wipeE_in hj g1
        cases this
      · rw [wipeE_out hj] at g1
        rw [wipe_out hj] at g2
        exact no7 j d g1 g2
    · have hk7 : (lcGo vs1 t1.den cs1.den e.den es1 ρ7).Post _ _ := Out.post_bind hk7
      refine hk7.mono (fun ys ρ' z => ?_) fun _ _ z => z
      have z := Out.post_bind z
      have hb : ∀ {o : Out (List D)}, o.Post (fun zs ρ'' => (Out.ok (ys ++ zs) ρ'' : Out (List D)).Post (fun ys ρ' => es.length + ys.length ≤ sizeLine ∧ K (es ++ ys) ρ') fun _ _ => False) (fun _ _ => False) → es.length + ys.length ≤ sizeLine ∧ o.Post (fun zs ρ'' => (es ++ ys).length + zs.length ≤ sizeLine ∧ K ((es ++ ys) ++ zs) ρ'') (fun _ _ => False) := fun {o} z => by
        cases o with
        | no => exact z.elim
        | er _ _ => exact z.elim
        | ok zs ρ'' =>
          have z1 : es.length + (ys ++ zs).length ≤ sizeLine ∧ K (es ++ (ys ++ zs)) ρ'' := z
          rw [List.length_append] at z1
          refine ⟨by omega, ?_⟩
          show (es ++ ys).length + zs.length ≤ sizeLine ∧ K ((es ++ ys) ++ zs) ρ''
          rw [List.append_assoc, List.length_append]
          exact ⟨by omega, z1.2⟩
      exact hb z
    · rcases lc_turn hs1 wk1 hAp hvs1 j k H8 w8 with ⟨hj, hst⟩ | hgo
      · refine .inl ⟨hst, ?_⟩
        obtain ⟨_, _, ρ8, O8, acc8, es8, e8, s8, hp8, hpH8, rac8, no8, hw8⟩ := w8
        subst hj
        rw [List.drop_length] at hw8
        obtain ⟨_, hK8⟩ := hw8
        rw [List.append_nil] at hK8
        have sw := s8.wipe (vs := vs) hvs
        rw [wipe_wipe hv, wipeE_wipeE hv, hw5] at sw
        refine ⟨ρ8, O8, acc8, es8, x7.trans e8, sw, hp8, hpH8, rac8, fun j d g1 g2 => ?_, hK8⟩
        by_cases hj : j ∈ vs
        · have := wipeE_in hj g1
          cases this
        · have hj1 : j ∉ vs1 := fun z => hj (hv j z)
          rw [wipeE_out hj, ← wipeE_out hj1] at g1
          rw [← hw5, wipe_out hj, ← wipe_out hj1] at g2
          exact no8 j d g1 g2
      · exact .inr hgo
end
def lc2Chk (src : Sr) (t : Tg) (cs : Cs) (src1 : Sr) (t1 : Tg) (cs1 : Cs) (e : Ex) (vs vs1 : List Nat) (k : Ck) (x : Expr) : Bool := match x with
  | .ListComp elt [⟨tg, iter, ifs, 0⟩, ⟨tg1, iter1, ifs1, 0⟩] scope _ => src.chk k tg iter && blkCk k scope vs && (t.sl.all fun i => vs.contains i) && t.chk (k.inner scope.names) tg && cs.chk (k.inner scope.names) ifs &&
      (vs1.all fun i => vs.contains i) && src1.chk (k.inner scope.names) tg1 iter1 && (t1.sl.all fun i => vs1.contains i) && t1.chk (k.inner scope.names) tg1 && cs1.chk (k.inner scope.names) ifs1 && e.chk (k.inner scope.names) elt
  | _ => false
def Fx.lc2 (src : Sr) (t : Tg) (cs : Cs) (src1 : Sr) (t1 : Tg) (cs1 : Cs) (e : Ex) (vs vs1 : List Nat) : Fx where
  den := lc2D src.den vs vs1 t.den cs.den src1.den t1.den cs1.den e.den
  chk := lc2Chk src t cs src1 t1 cs1 e vs vs1
  need := src.need.app (t.need.app (cs.need.app (src1.need.app (t1.need.app (cs1.need.app e.need)))))
  ok := fun {X L A W lev k} c n x h => by
    unfold lc2Chk at h
    split at h
    · rename_i elt tg iter ifs tg1 iter1 ifs1 scope pos
      simp only [Bool.and_eq_true] at h
      obtain ⟨⟨⟨⟨⟨⟨⟨⟨⟨⟨h1, h2⟩, h3⟩, h4⟩, h5⟩, h6⟩, h7⟩, h8⟩, h9⟩, h10⟩, h11⟩ := h
      have hs : ∀ i ∈ t.sl, i ∈ vs := fun i hi => by simpa using List.all_eq_true.mp h3 i hi
      have hv : ∀ i ∈ vs1, i ∈ vs := fun i hi => by simpa using List.all_eq_true.mp h6 i hi
      have hs1 : ∀ i ∈ t1.sl, i ∈ vs1 := fun i hi => by simpa using List.all_eq_true.mp h8 i hi
      have p := pe_lc2 (pos := pos) (tt := tAnyT (zx X L) cs.den) (te := tAnyE (zx X L) e.den) (g := gAny (zx X L) t.den t.sl) (wi1 := tAnyI (zx X L) src1.den) (g1 := gAny (zx X L) t1.den t1.sl) (tt1 := tAnyT (zx X L) cs1.den) (vs1 := vs1) c.calm (by rw [c.N]; exact c.nd) (src.ok (W := W) (A := A) c n.left tg iter h1) (c.blkOk h2)
        (by rw [ownN_snd]; exact hv)
        (fun s H C cl fp => pg_ex fun A' => t.ok (c.blk (A' := A') s H scope C cl fp) (n.right.left.blk s H scope _ fp) tg h4)
        (fun s H C cl fp => pts_ex fun A' => cs.ok (c.blk (A' := A') s H scope C cl fp) (n.right.right.left.blk s H scope _ fp) ifs h5)
        (fun s H C cl fp => pi_ex fun A' => src1.ok (c.blk (A' := A') s H scope C cl fp) (n.right.right.right.left.blk s H scope _ fp) tg1 iter1 h7)
        (fun s H C cl fp => pg_ex fun A' => t1.ok (c.blk (A' := A') s H scope C cl fp) (n.right.right.right.right.left.blk s H scope _ fp) tg1 h9)
        (fun s H C cl fp => pts_ex fun A' => cs1.ok (c.blk (A' := A') s H scope C cl fp) (n.right.right.right.right.right.left.blk s H scope _ fp) ifs1 h10)
        (fun s H C cl fp => pe_ex fun A' => e.ok (c.blk (A' := A') s H scope C cl fp) (n.right.right.right.right.right.right.blk s H scope _ fp) elt h11)
        (fun v => fold_of (src.fd k tg iter h1) _ v) (fun env v => fold_of (src1.fd _ tg1 iter1 h7) env v)
      rw [ownN_snd] at p
      exact PE.weak p fun σ H Q q => lc2_read hs hs1 hv q
    · cases h
  pl := fun k x h => by unfold lc2Chk at h; split at h <;> first | rfl | cases h
  set := fun {X L A W lev k} c n x h i y py spos hl => by
    unfold lc2Chk at h
    split at h
    · rename_i elt tg iter ifs tg1 iter1 ifs1 scope pos
      simp only [Bool.and_eq_true] at h
      obtain ⟨⟨⟨⟨⟨⟨⟨⟨⟨⟨h1, h2⟩, h3⟩, h4⟩, h5⟩, h6⟩, h7⟩, h8⟩, h9⟩, h10⟩, h11⟩ := h
      have hs : ∀ i ∈ t.sl, i ∈ vs := fun i hi => by simpa using List.all_eq_true.mp h3 i hi
      have hv : ∀ i ∈ vs1, i ∈ vs := fun i hi => by simpa using List.all_eq_true.mp h6 i hi
      have hs1 : ∀ i ∈ t1.sl, i ∈ vs1 := fun i hi => by simpa using List.all_eq_true.mp h8 i hi
      have hN : X.N.Nodup := by rw [c.cx.N]; exact c.cx.nd
      obtain ⟨g1, g2, g3⟩ := c.cx.locOk hl
      have e1 : swapsWith (.ListComp elt [⟨tg, iter, ifs, 0⟩, ⟨tg1, iter1, ifs1, 0⟩] scope pos) (some (.Name y py)) spos.line X.env = pure (X.env.blockKind == .function && X.env.kindOf y == some .local && py.line == pos.line
        && !(scope.names.any fun (n, k) => n == y && (k == .local || k == .cell))) := rfl
      have P1 := src.ok (W := W) (A := A) c.cx n.left tg iter h1
      have P2 := c.cx.blkOk h2
      have P0 : ∀ i ∈ vs1, i ∈ (ownN k vs).map (·.2) := by rw [ownN_snd]; exact hv
      have P3 := fun (s : Shared) (H : Hp) (C : Addr) (cl : List (Str × Addr)) (fp : List Addr) => pg_ex fun A' => t.ok (c.cx.blk (A' := A') s H scope C cl fp) (n.right.left.blk s H scope _ fp) tg h4
      have P4 := fun (s : Shared) (H : Hp) (C : Addr) (cl : List (Str × Addr)) (fp : List Addr) => pts_ex fun A' => cs.ok (c.cx.blk (A' := A') s H scope C cl fp) (n.right.right.left.blk s H scope _ fp) ifs h5
      have P7 := fun (s : Shared) (H : Hp) (C : Addr) (cl : List (Str × Addr)) (fp : List Addr) => pi_ex fun A' => src1.ok (c.cx.blk (A' := A') s H scope C cl fp) (n.right.right.right.left.blk s H scope _ fp) tg1 iter1 h7
      have P8 := fun (s : Shared) (H : Hp) (C : Addr) (cl : List (Str × Addr)) (fp : List Addr) => pg_ex fun A' => t1.ok (c.cx.blk (A' := A') s H scope C cl fp) (n.right.right.right.right.left.blk s H scope _ fp) tg1 h9
      have P9 := fun (s : Shared) (H : Hp) (C : Addr) (cl : List (Str × Addr)) (fp : List Addr) => pts_ex fun A' => cs1.ok (c.cx.blk (A' := A') s H scope C cl fp) (n.right.right.right.right.right.left.blk s H scope _ fp) ifs1 h10
      have P5 := fun (s : Shared) (H : Hp) (C : Addr) (cl : List (Str × Addr)) (fp : List Addr) => pe_ex fun A' => e.ok (c.cx.blk (A' := A') s H scope C cl fp) (n.right.right.right.right.right.right.blk s H scope _ fp) elt h11
      have P6 := fun v => fold_of (src.fd k tg iter h1) X.env v
      have P61 := fun env v => fold_of (src1.fd _ tg1 iter1 h7) env v
      cases hb : (X.env.blockKind == .function && X.env.kindOf y == some .local && py.line == pos.line && !(scope.names.any fun (n, k) => n == y && (k == .local || k == .cell))) with
      | true =>
        rw [hb] at e1
        have hy : X.env.scope.names.lookup y = some .local := by
          simp only [Bool.and_eq_true] at hb
          have := hb.1.1.2
          have z : X.env.kindOf y = some .local := by simpa using this
          exact z
        have p := ps_setLc2 (tt := tAnyT (zx X L) cs.den) (te := tAnyE (zx X L) e.den) (g := gAny (zx X L) t.den t.sl) (wi1 := tAnyI (zx X L) src1.den) (g1 := gAny (zx X L) t1.den t1.sl) (tt1 := tAnyT (zx X L) cs1.den) (vs1 := vs1) (pos := pos) c.cx.calm hN g1 hy e1 P1 P2 P0 P3 P4 P7 P8 P9 P5 P6 P61
        rw [ownN_snd] at p
        exact PS.weak p fun E σ H q => lc2_read hs hs1 hv q
      | false =>
        rw [hb] at e1
        have p := pe_lc2 (tt := tAnyT (zx X L) cs.den) (te := tAnyE (zx X L) e.den) (g := gAny (zx X L) t.den t.sl) (wi1 := tAnyI (zx X L) src1.den) (g1 := gAny (zx X L) t1.den t1.sl) (tt1 := tAnyT (zx X L) cs1.den) (vs1 := vs1) (pos := pos) c.cx.calm hN P1 P2 P0 P3 P4 P7 P8 P9 P5 P6 P61
        rw [ownN_snd] at p
        exact ps_set hN g1 g2 (PE.weak p fun σ H Q q => lc2_read hs hs1 hv q) e1 g3
    · cases h
/-! ### defs that call themselves -/
/-- what it does, so many calls deep -/
def recDen (mk : (List D → FO) → Df) : Nat → List D → FO
  | 0 => fun _ => .no
  | n + 1 => (mk (recDen mk n)).den
theorem fnW_no {G : Gd} {d : Df} {st : Stmt} {k : Nat} {f : Addr} {kV doc pm cdv ct oc : Value} {an od : Option Addr} {osl : Array (Option Value)} (hmg : G.mg d.name = some (.ref f)) (lk : G.K.lookup f = some ⟨oc, od, .func (PySem.W.fnOf d.name d.name (defArgs st) (defBody st) (defScope st) .none kV doc pm an cdv ct), osl⟩) (keep : PySem.W.keepIn G.K (.ref f) = true)
    (h : d.all st = true) : FnW G k d.name ⟨fun _ => .no, d.io, d.fresh, d.ps.length⟩ := by
  unfold Df.all at h
  rw [Bool.and_eq_true] at h
  obtain ⟨as, hp, hn⟩ := plainArgs_of h.2
  refine ⟨f, PySem.W.fnOf d.name d.name (defArgs st) (defBody st) (defScope st) .none kV doc pm an cdv ct, d.ps, hmg, keep, rfl, Binds.all fun us hl => bind_plain hp rfl hn (psNodup h.1) hl, ⟨fun vs H Q E q => ?_, fun A hg hr outer s H args us vs Q E I hb hv q => ?_⟩⟩
  · obtain ⟨_, _, _, _, _, _, _, q⟩ := q
    exact q.elim
  · obtain ⟨_, _, _, _, _, _, _, q⟩ := q
    exact q.elim
theorem fnW_rec {G : Gd} {mk : (List D → FO) → Df} {x : Str} {io : List Nat} {fr : Bool} {ar b : Nat} (h0 : FnW G b x ⟨fun _ => .no, io, fr, ar⟩) (hs : ∀ (r : List D → FO) (k : Nat), b ≤ k → FnW G k x ⟨r, io, fr, ar⟩ → FnW G (k + 1) x ⟨(mk r).den, io, fr, ar⟩) : ∀ n, FnW G (b + n) x ⟨recDen mk n, io, fr, ar⟩
  | 0 => h0
  | n + 1 => hs _ _ (Nat.le_add_right _ _) (fnW_rec h0 hs n)
end Ev
set_option Elab.async false
set_option maxRecDepth 100000
set_option maxHeartbeats 4000000
/-! EvAA: e in own. -/
namespace Ev
open PySem PySem.Spec PyProof.Rows L2

def oinD (neg : Bool) (a : Ex) (i : Nat) : En → Out Bool := fun ρ => if isOwn ρ i = true then (a.den ρ).bind fun x ρ1 => Out.lift ((lstAt ρ1 i).bind fun ds => (inDs x ds).map fun b => if neg then !b else b) ρ1 else .no
section
variable {X : Cx} {L : Lx} {A : An} {W : WX}
theorem own_list {Z : Zx} {H : Hp} {O : List Addr} {σ : L2.St} {ρ : En} {i : Nat} {p : Addr} {ds : List D} (s : SR Z A H O σ ρ) (hp : σ[i]? = some (some (.ref p))) (hd : lstAt ρ i = some ds) : ∃ xs, H p = some (.lst xs) ∧ Reps Z H O xs ds := by
  obtain ⟨p', hp', ⟨xs, es, g1, g2, g3, g4⟩, _⟩ := s.own i _ (lstAt_eq hd)
  rw [hp] at hp'
  cases hp'
  cases g1
  exact ⟨xs, g3, g4⟩
theorem s_oin {neg : Bool} {a : Ex} {i : Nat} {r : R2} {σ : L2.St} {H : Hp} {O : List Addr} {ρ : En} {Q : VK}
    (hr : ∀ (H : Hp) (x : PyData) (ys : List PyData) (v w : V) (Q : VK), Dp X.K H v x → (Dp X.K H w (.list ys) ∨ Dp X.K H w (.tuple ys)) → x.canLay0 = true → PyData.canLayAll0 ys = true → min (PyData.depthAll ys) x.depth ≤ 63 → Q (.bl (if neg then !(ys.any fun z => PyData.eqv z x) else ys.any fun z => PyData.eqv z x)) H → r v w H Q)
    (s : SR (zx X L) A H O σ ρ) {P : Bool → En → Prop} (q : (oinD neg a i ρ).Post P (ErP (zx X L) A W H O))
    (hq : ∀ t ρ', P t ρ' → ∀ H' O', Ext H O H' O' → SR (zx X L) A H' O' σ ρ' → Q (.bl t) H') : tOp r (tS (zx X L) A W a.den) (tVar i) σ H Q := by
  unfold oinD at q
  split at q
  · rename_i ho
    unfold isOwn at ho
    split at ho
    · rename_i d0 h0
      obtain ⟨p, hp, _⟩ := s.own i d0 h0
      refine tS_bind s q fun d ρ1 v H1 O1 e1 s1 r1 hk => ?_
      obtain ⟨b, hb, hk⟩ := post_lift hk
      obtain ⟨ds, hds, hb⟩ := Option.bind_eq_some_iff.mp hb
      obtain ⟨c, hc, rfl⟩ := Option.map_eq_some_iff.mp hb
      obtain ⟨h1, h2, h3, rfl⟩ := inDs_some hc
      obtain ⟨xs, g3, g4⟩ := own_list s1 hp hds
      refine ⟨_, hp, hr H1 _ _ v _ _ (r1.dp h1) (.inl (.lst (.inl (.inl g3)) (g4.dp h2))) (r1.lay h1) (g4.lay h2) h3 ?_⟩
      exact hq _ _ hk H1 O1 e1 s1
    · cases ho
  · exact q.elim
end
def oinOp (neg : Bool) : CmpOp := if neg then .NotIn else .In
def Ex.oin (neg : Bool) (a : Ex) (i : Nat) : Ex where
  den := toD (oinD neg a i)
  tst := oinD neg a i
  chk := fun k x => match x with | .Compare x [o] [.Name y _] _ => decide (o = oinOp neg) && k.vis i y && a.chk k x | _ => false
  need := a.need
  ok := fun {X L A W lev k} c n x h => by
    split at h
    · simp only [Bool.and_eq_true, decide_eq_true_eq] at h
      obtain ⟨⟨rfl, h1⟩, h2⟩ := h
      obtain ⟨c1, c2, c3, c4⟩ := c.visOk h1
      cases neg with
      | false => exact PE.weak (pe_cmpR (op_inP c.units) (a.ok c n _ h2) (pe_var c1 c2 c3 c4) rfl) fun σ H Q ⟨ρ, O, s, q⟩ => s_oin (neg := false) (fun H x ys v w Q h1 h2 h3 h4 h5 q => ⟨_, _, h1, h2, h3, h4, h5, q⟩) s (Out.post_bind q) fun t ρ' hp H' O' e' s' => hp _ H' O' e' s' (.bl t)
      | true => exact PE.weak (pe_cmpR (op_notInP c.units) (a.ok c n _ h2) (pe_var c1 c2 c3 c4) rfl) fun σ H Q ⟨ρ, O, s, q⟩ => s_oin (neg := true) (fun H x ys v w Q h1 h2 h3 h4 h5 q => ⟨_, _, h1, h2, h3, h4, h5, q⟩) s (Out.post_bind q) fun t ρ' hp H' O' e' s' => hp _ H' O' e' s' (.bl t)
    · cases h
  okT := fun {X L A W lev k} c n x h => by
    split at h
    · simp only [Bool.and_eq_true, decide_eq_true_eq] at h
      obtain ⟨⟨rfl, h1⟩, h2⟩ := h
      obtain ⟨c1, c2, c3, c4⟩ := c.visOk h1
      cases neg with
      | false => exact PT.weak (pt_cmpR (op_inP c.units) (a.ok c n _ h2) (pe_var c1 c2 c3 c4) rfl) fun σ H Q ⟨ρ, O, s, q⟩ => s_oin (neg := false) (fun H x ys v w Q h1 h2 h3 h4 h5 q => ⟨_, _, h1, h2, h3, h4, h5, q⟩) s q fun t ρ' hp H' O' e' s' => ⟨t, rfl, hp H' O' e' s'⟩
      | true => exact PT.weak (pt_cmpR (op_notInP c.units) (a.ok c n _ h2) (pe_var c1 c2 c3 c4) rfl) fun σ H Q ⟨ρ, O, s, q⟩ => s_oin (neg := true) (fun H x ys v w Q h1 h2 h3 h4 h5 q => ⟨_, _, h1, h2, h3, h4, h5, q⟩) s q fun t ρ' hp H' O' e' s' => ⟨t, rfl, hp H' O' e' s'⟩
    · cases h
end Ev
set_option Elab.async false
set_option maxRecDepth 100000
set_option maxHeartbeats 4000000
/-! EvBB: plain facts that many laws ask: texts, days, comprehensions; rows of the newer terms. -/
namespace Ev
open PySem PySem.Spec PyProof.Rows L2

abbrev NO (s : Sl) : Prop := s.isO = false
theorem no_of {s : Sl} (h : NO s) : ∀ d, s ≠ .o d := fun d z => by rw [z] at h; cases h
/-- the well: three ints -/
def W3 (a b c : Int) : D := .lst [.int a, .int b, .int c]
theorem atI_nat {α : Type} {xs : List α} {k : Nat} (h : k < xs.length) : atI xs (k : Int) = some xs[k] := by
  unfold atI ixN
  simp [h]
theorem atI_lit {α : Type} {xs : List α} (k : Nat) (h : k < xs.length) {i : Int} (e : i = (k : Int)) : atI xs i = some xs[k] := by
  subst e
  exact atI_nat h
theorem at0 {α : Type} {a : α} {r : List α} : atI (a :: r) 0 = some a := by
  have := atI_nat (xs := a :: r) (k := 0) (by simp)
  exact this
theorem at1 {α : Type} {a b : α} {r : List α} : atI (a :: b :: r) 1 = some b := by
  have := atI_nat (xs := a :: b :: r) (k := 1) (by simp)
  exact this
theorem at2 {α : Type} {a b c : α} {r : List α} : atI (a :: b :: c :: r) 2 = some c := by
  have := atI_nat (xs := a :: b :: c :: r) (k := 2) (by simp)
  exact this
theorem at3 {α : Type} {a b c d : α} {r : List α} : atI (a :: b :: c :: d :: r) 3 = some d := by
  have := atI_nat (xs := a :: b :: c :: d :: r) (k := 3) (by simp)
  exact this
theorem at_last {α : Type} {xs : List α} {x : α} : atI (xs ++ [x]) (-1) = some x := by
  have h2 : ((-1 : Int) + ((xs.length : Int) + 1)).toNat = xs.length := by omega
  unfold atI ixN
  rw [List.length_append, List.length_singleton]
  show Option.bind (if _ then _ else _) _ = _
  rw [show (((xs.length + 1 : Nat) : Int)) = (xs.length : Int) + 1 from by omega]
  simp
  rw [if_pos (by omega)]
  simp [h2]
theorem atI_mem {α : Type} {xs : List α} {i : Int} {x : α} (h : atI xs i = some x) : x ∈ xs := by
  unfold atI at h
  cases q : ixN xs.length i with
  | none => rw [q] at h; cases h
  | some k =>
    rw [q] at h
    exact List.mem_of_getElem? h
theorem atI_in {α : Type} {xs : List α} {r : Int} (h0 : 0 ≤ r) (h1 : r < xs.length) : ∃ x ∈ xs, atI xs r = some x := by
  obtain ⟨n, rfl⟩ := Int.eq_ofNat_of_zero_le h0
  have hn : n < xs.length := by omega
  exact ⟨xs[n], List.getElem_mem hn, atI_nat hn⟩
theorem ixN_lit {n k : Nat} (h : k < n) : ixN n (k : Int) = some k := by
  unfold ixN
  simp [h]
theorem strs_data (zs : List Str) : Ds.data (zs.map .str) = true := by
  induction zs with
  | nil => rfl
  | cons z zs ih => show (true && Ds.data (zs.map .str)) = true; rw [ih]; rfl
theorem inDs_map (k : Str) (zs : List Str) : inDs (.str k) (zs.map .str) = some (decide (k ∈ zs)) := by
  rw [inDs_str k (strs_data zs), any_isStr]
theorem filt_map (p : Str → Bool) (q : D → Bool) (h : ∀ z, q (.str z) = p z) : ∀ zs : List Str, ((zs.map D.str).filter q).map (fun d => d) = (zs.filter p).map .str
  | [] => rfl
  | z :: zs => by
    have ih := filt_map p q h zs
    rw [List.map_id'] at ih ⊢
    rw [List.map_cons, List.filter_cons, List.filter_cons, h z]
    cases p z <;> simp [ih]
theorem filt_true {α : Type} (l : List α) : l.filter (fun _ => true) = l := List.filter_eq_self.mpr fun _ _ => rfl
theorem bls_map {α : Type} (f : α → Bool) (xs : List α) : blsOf (xs.map fun x => D.bl (f x)) = some (xs.map f) := by
  rw [show (xs.map fun x => D.bl (f x)) = (xs.map f).map .bl by rw [List.map_map]; rfl]
  exact blsOf_map _
theorem all_map_id {α : Type} (f : α → Bool) (xs : List α) : (xs.map f).all id = xs.all f := by rw [List.all_map]; rfl
theorem any_map_id {α : Type} (f : α → Bool) (xs : List α) : (xs.map f).any id = xs.any f := by rw [List.any_map]; rfl
theorem nw_ever_after : (Str.ofString "ever" = Str.ofString "after") = False := eq_false (by decide)
theorem nw_ever_within : (Str.ofString "ever" = Str.ofString "within") = False := eq_false (by decide)
theorem nw_ever_times : (Str.ofString "ever" = Str.ofString "times") = False := eq_false (by decide)
theorem nw_ever_not : (Str.ofString "ever" = Str.ofString "not") = False := eq_false (by decide)
theorem nw_ever_all : (Str.ofString "ever" = Str.ofString "all") = False := eq_false (by decide)
theorem nw_ever_any : (Str.ofString "ever" = Str.ofString "any") = False := eq_false (by decide)
theorem nw_after_ever : (Str.ofString "after" = Str.ofString "ever") = False := eq_false (by decide)
theorem nw_after_within : (Str.ofString "after" = Str.ofString "within") = False := eq_false (by decide)
theorem nw_after_times : (Str.ofString "after" = Str.ofString "times") = False := eq_false (by decide)
theorem nw_after_not : (Str.ofString "after" = Str.ofString "not") = False := eq_false (by decide)
theorem nw_after_all : (Str.ofString "after" = Str.ofString "all") = False := eq_false (by decide)
theorem nw_after_any : (Str.ofString "after" = Str.ofString "any") = False := eq_false (by decide)
theorem nw_within_ever : (Str.ofString "within" = Str.ofString "ever") = False := eq_false (by decide)
theorem nw_within_after : (Str.ofString "within" = Str.ofString "after") = False := eq_false (by decide)
theorem nw_within_times : (Str.ofString "within" = Str.ofString "times") = False := eq_false (by decide)
theorem nw_within_not : (Str.ofString "within" = Str.ofString "not") = False := eq_false (by decide)
theorem nw_within_all : (Str.ofString "within" = Str.ofString "all") = False := eq_false (by decide)
theorem nw_within_any : (Str.ofString "within" = Str.ofString "any") = False := eq_false (by decide)
theorem nw_times_ever : (Str.ofString "times" = Str.ofString "ever") = False := eq_false (by decide)
theorem nw_times_after : (Str.ofString "times" = Str.ofString "after") = False := eq_false (by decide)
theorem nw_times_within : (Str.ofString "times" = Str.ofString "within") = False := eq_false (by decide)
theorem nw_times_not : (Str.ofString "times" = Str.ofString "not") = False := eq_false (by decide)
theorem nw_times_all : (Str.ofString "times" = Str.ofString "all") = False := eq_false (by decide)
theorem nw_times_any : (Str.ofString "times" = Str.ofString "any") = False := eq_false (by decide)
theorem nw_not_ever : (Str.ofString "not" = Str.ofString "ever") = False := eq_false (by decide)
theorem nw_not_after : (Str.ofString "not" = Str.ofString "after") = False := eq_false (by decide)
theorem nw_not_within : (Str.ofString "not" = Str.ofString "within") = False := eq_false (by decide)
theorem nw_not_times : (Str.ofString "not" = Str.ofString "times") = False := eq_false (by decide)
theorem nw_not_all : (Str.ofString "not" = Str.ofString "all") = False := eq_false (by decide)
theorem nw_not_any : (Str.ofString "not" = Str.ofString "any") = False := eq_false (by decide)
theorem nw_all_ever : (Str.ofString "all" = Str.ofString "ever") = False := eq_false (by decide)
theorem nw_all_after : (Str.ofString "all" = Str.ofString "after") = False := eq_false (by decide)
theorem nw_all_within : (Str.ofString "all" = Str.ofString "within") = False := eq_false (by decide)
theorem nw_all_times : (Str.ofString "all" = Str.ofString "times") = False := eq_false (by decide)
theorem nw_all_not : (Str.ofString "all" = Str.ofString "not") = False := eq_false (by decide)
theorem nw_all_any : (Str.ofString "all" = Str.ofString "any") = False := eq_false (by decide)
theorem nw_any_ever : (Str.ofString "any" = Str.ofString "ever") = False := eq_false (by decide)
theorem nw_any_after : (Str.ofString "any" = Str.ofString "after") = False := eq_false (by decide)
theorem nw_any_within : (Str.ofString "any" = Str.ofString "within") = False := eq_false (by decide)
theorem nw_any_times : (Str.ofString "any" = Str.ofString "times") = False := eq_false (by decide)
theorem nw_any_not : (Str.ofString "any" = Str.ofString "not") = False := eq_false (by decide)
theorem nw_any_all : (Str.ofString "any" = Str.ofString "all") = False := eq_false (by decide)
theorem choose_on {α β : Type} [Inhabited β] {ds : List α} {P : α → β → Prop} (h : ∀ d ∈ ds, ∃ m, P d m) : ∃ f : α → β, ∀ d ∈ ds, P d (f d) := by
  classical
  refine ⟨fun d => if h' : d ∈ ds then Classical.choose (h d h') else default, fun d hd => ?_⟩
  have e : (fun d => if h' : d ∈ ds then Classical.choose (h d h') else default : α → β) d = Classical.choose (h d hd) := by
    show (if h' : d ∈ ds then Classical.choose (h d h') else default) = _
    rw [dif_pos hd]
  rw [e]
  exact Classical.choose_spec (h d hd)
theorem le_size {n : Nat} (h : n ≤ 16777216) : (n ≤ sizeLine) = True := eq_true h
theorem lt_size {n : Nat} (h : n < 16777216) : (n < sizeLine) = True := eq_true h
theorem size_is : sizeLine = 16777216 := rfl
theorem nc_0 : ((0 : Nat) : Int) = 0 := rfl
theorem nc_1 : ((1 : Nat) : Int) = 1 := rfl
theorem nc_2 : ((2 : Nat) : Int) = 2 := rfl
theorem nc_3 : ((3 : Nat) : Int) = 3 := rfl
theorem nc_4 : ((4 : Nat) : Int) = 4 := rfl
theorem nc_5 : ((5 : Nat) : Int) = 5 := rfl
theorem nc_6 : ((6 : Nat) : Int) = 6 := rfl
theorem nc_7 : ((7 : Nat) : Int) = 7 := rfl
theorem nc_8 : ((8 : Nat) : Int) = 8 := rfl
theorem nc_9 : ((9 : Nat) : Int) = 9 := rfl
theorem nc_10 : ((10 : Nat) : Int) = 10 := rfl
theorem nc_11 : ((11 : Nat) : Int) = 11 := rfl
theorem nc_12 : ((12 : Nat) : Int) = 12 := rfl
theorem eqD_nn : eqD (.lst []) (.lst []) = some true := rfl
theorem eqD_bl (a b : Bool) : eqD (.bl a) (.bl b) = some (decide (a = b)) := by
  cases a <;> cases b <;> rfl
theorem eqD_int_non (i : Int) : eqD (.int i) .non = some false := by
  unfold eqD
  simp [D.data, D.toP, PyData.eqv, PyData.depth]
theorem eqD_len (a b : Nat) : eqD (.int (a : Int)) (.int (b : Int)) = some (decide (a = b)) := by
  rw [eqD_int]
  congr 1
  refine Bool.eq_iff_iff.mpr ?_
  simp only [decide_eq_true_eq]
  omega
theorem shown_bl (b : Bool) : ∃ s, shownD (.bl b) = some s := by
  cases b <;> exact ⟨_, rfl⟩
theorem cutL_len {α : Type} (xs : List α) (lo hi : Option Int) : (cutL xs lo hi).length ≤ xs.length := by
  unfold cutL
  rw [List.length_take, List.length_drop]
  omega
theorem cutL_mem {α : Type} {xs : List α} {a b : Option Int} {x : α} (h : x ∈ cutL xs a b) : x ∈ xs := by
  unfold cutL at h
  exact List.mem_of_mem_drop (List.mem_of_mem_take h)
theorem rng_nat {n : Nat} (h : n ≤ 1000000) : rngD [.int (n : Int)] = some (upFrom 0 1 n) := by
  have hi : inRng (n : Int) = true := by
    unfold inRng
    rw [Bool.and_eq_true, decide_eq_true_eq, decide_eq_true_eq]
    omega
  show (if inRng (n : Int) = true then some (upFrom 0 1 (n : Int).toNat) else none) = _
  rw [if_pos hi]
  rfl
theorem strsOf_map (zs : List Str) : strsOf (zs.map .str) = some zs := by
  induction zs with
  | nil => rfl
  | cons z zs ih => simp [strsOf, ih]
theorem strsOf_some : ∀ {xs : List D} {zs : List Str}, strsOf xs = some zs → xs = zs.map .str
  | [], zs, h => by cases h; rfl
  | .str z :: r, zs, h => by
    unfold strsOf at h
    cases q : strsOf r with
    | none => rw [q] at h; cases h
    | some ys =>
      rw [q] at h
      cases h
      rw [strsOf_some q]
      rfl
  | .non :: _, _, h | .bl _ :: _, _, h | .int _ :: _, _, h | .tup _ :: _, _, h | .lst _ :: _, _, h | .dic _ :: _, _, h | .clo _ _ :: _, _, h | .obj _ _ :: _, _, h | .scr _ :: _, _, h => by cases h
theorem zipD_len (xs ys : List D) : (zipD xs ys).length ≤ xs.length := by
  rw [zipD_length]
  exact Nat.min_le_left _ _
theorem sub_filter {α : Type} [DecidableEq α] : ∀ {l zs : List α}, zs.Sublist l → l.Nodup → l.filter (fun k => decide (k ∈ zs)) = zs
  | _, _, .slnil, _ => rfl
  | _, _, .cons (l₁ := zs) (l₂ := l) a s, nd => by
    rw [List.nodup_cons] at nd
    rw [List.filter_cons, if_neg (by rw [decide_eq_true_eq]; exact fun z => nd.1 (s.subset z))]
    exact sub_filter s nd.2
  | _, _, .cons₂ (l₁ := zs) (l₂ := l) a s, nd => by
    rw [List.nodup_cons] at nd
    rw [List.filter_cons, if_pos (by simp)]
    congr 1
    rw [← sub_filter s nd.2]
    refine List.filter_congr fun k hk => ?_
    have : k ≠ a := fun z => nd.1 (by rw [← z]; exact hk)
    rw [sub_filter s nd.2]
    simp [this]
theorem if_or {p q x y : Prop} [Decidable p] [Decidable q] : (if p then x else if q then x else y) = (if p ∨ q then x else y) := by
  by_cases h : p <;> by_cases g : q <;> simp [h, g]
theorem if_and {p q x y : Prop} [Decidable p] [Decidable q] : (if p then (if q then x else y) else y) = (if p ∧ q then x else y) := by
  by_cases h : p <;> by_cases g : q <;> simp [h, g]
theorem map_eraseIdx {α β : Type} (f : α → β) : ∀ (xs : List α) (j : Nat), (xs.eraseIdx j).map f = (xs.map f).eraseIdx j
  | [], _ => rfl
  | _ :: _, 0 => rfl
  | x :: xs, j + 1 => by
    show f x :: (xs.eraseIdx j).map f = f x :: (xs.map f).eraseIdx j
    rw [map_eraseIdx f xs j]
theorem subD_int {i : Nat} {j : Int} {d : D} {ρ : En} : subD i (.int j) d ρ = if isOwn ρ i = true then (lstAt ρ i).bind fun ds => (ixN ds.length j).map fun m => ρ.set i (.o (.lst (ds.set m d))) else none := by
  unfold subD
  congr 1
  show (match ρ[i]? with | some (.o (.lst ds)) => (ixN ds.length j).map fun m => ρ.set i (.o (.lst (ds.set m d))) | _ => none) = _
  unfold lstAt
  cases ρ[i]? with
  | none => rfl
  | some s =>
    cases s with
    | o d => cases d <;> rfl
    | _ => rfl
theorem subD_var {i k : Nat} {d : D} {ρ : En} : subD i (.var k) d ρ = if isOwn ρ i = true then (slV ρ k).bind fun j => (lstAt ρ i).bind fun ds => (match j with | .int j => ixN ds.length j | _ => none).map fun m => ρ.set i (.o (.lst (ds.set m d))) else none := by
  unfold subD
  congr 1
  show (match dVar k ρ with | .ok (.int j) ρ1 => (match ρ1[i]? with | some (.o (.lst ds)) => (ixN ds.length j).map fun m => ρ1.set i (.o (.lst (ds.set m d))) | _ => none) | _ => none) = _
  unfold dVar slV lstAt
  cases ρ[k]? with
  | none => rfl
  | some s =>
    cases s with
    | v j =>
      cases j with
      | int j =>
        show (match ρ[i]? with | some (.o (.lst ds)) => (ixN ds.length j).map fun m => ρ.set i (.o (.lst (ds.set m d))) | _ => none) = _
        cases ρ[i]? with
        | none => rfl
        | some s =>
          cases s with
          | o d => cases d <;> rfl
          | _ => rfl
      | _ =>
        show none = _
        cases ρ[i]? with
        | none => rfl
        | some s =>
          cases s with
          | o d => cases d <;> rfl
          | _ => rfl
    | _ => rfl
theorem ixN_0 {n : Nat} : ixN (n + 1) 0 = some 0 := by
  have := ixN_lit (n := n + 1) (k := 0) (by omega)
  exact this
theorem ixN_1 {n : Nat} : ixN (n + 2) 1 = some 1 := by
  have := ixN_lit (n := n + 2) (k := 1) (by omega)
  exact this
theorem ixN_2 {n : Nat} : ixN (n + 3) 2 = some 2 := by
  have := ixN_lit (n := n + 3) (k := 2) (by omega)
  exact this
theorem eq_of_post {α : Type} {o : Out α} {a : α} {ρ : En} (h : o.Post (fun t ρ' => t = a ∧ ρ' = ρ) fun _ _ => False) : o = .ok a ρ := by
  cases o with
  | no => exact h.elim
  | er _ _ => exact h.elim
  | ok t ρ' =>
    obtain ⟨h1, h2⟩ := h
    rw [h1, h2]
theorem slN_iff {ρ : En} {i : Nat} (h : slN ρ i = true) : i < ρ.length ∧ noOwn ρ [i] = true := by
  unfold slN at h
  cases q : ρ[i]? with
  | none => rw [q] at h; cases h
  | some s =>
    refine ⟨(List.getElem?_eq_some_iff.mp q).1, noOwn1 fun d z => ?_⟩
    rw [z] at q
    cases q
    rw [z] at h
    cases h
/-- a comprehension of one name whose tests and elements change nothing -/
theorem pz_lc1 {src : En → Out (List D)} {i : Nat} {cond : En → Out Bool} {elt : En → Out D} {ρ ρ1 : En} {ds : List D} {Q : List D → En → Prop} {R : Xn → En → Prop} {z : Lz (Q, R)} (p : D → Bool) (g : D → D) (h1 : src ρ = .ok ds ρ1) (hi : slN ρ1 i = true) (hz : ds.length ≤ 1000000)
    (hc : ∀ d ∈ ds, (cond (ρ1.set i (.v d))).Pz (fun t ρ' => t = p d ∧ ρ' = ρ1.set i (.v d)) (fun _ _ => False) .mk) (he : ∀ d ∈ ds, p d = true → (elt (ρ1.set i (.v d))).Pz (fun y ρ' => y = g d ∧ ρ' = ρ1.set i (.v d)) (fun _ _ => False) .mk)
    (q : Q ((ds.filter p).map g) ρ1) : (lcD src [i] (nameD i) cond elt ρ).Pz Q R z := by
  obtain ⟨h2, h3⟩ := slN_iff hi
  show Out.Post _ _ _
  rw [lc1 p g h1 h2 h3 (Nat.le_trans hz (by decide)) (fun d hd => eq_of_post (hc d hd)) fun d hd hp => eq_of_post (he d hd hp)]
  exact q
/-- .. over texts, filtered -/
theorem pz_lcS {src : En → Out (List D)} {i : Nat} {cond : En → Out Bool} {ρ ρ1 : En} {zs : List Str} {Q : List D → En → Prop} {R : Xn → En → Prop} {z : Lz (Q, R)} (p : Str → Bool) (h1 : src ρ = .ok (zs.map .str) ρ1) (hi : slN ρ1 i = true) (hz : zs.length ≤ 1000000)
    (hc : ∀ k ∈ zs, (cond (ρ1.set i (.v (.str k)))).Pz (fun t ρ' => t = p k ∧ ρ' = ρ1.set i (.v (.str k))) (fun _ _ => False) .mk)
    (q : Q ((zs.filter p).map .str) ρ1) : (lcD src [i] (nameD i) cond (Ex.var i).den ρ).Pz Q R z := by
  refine pz_lc1 (fun d => match d with | .str k => p k | _ => false) (fun d => d) h1 hi (by rw [List.length_map]; exact hz) (fun d hd => ?_) (fun d hd _ => ?_) ?_
  · obtain ⟨k, hk, rfl⟩ := List.mem_map.mp hd
    exact hc k hk
  · show Out.Pz _ _ _ .mk
    rw [pz_var]
    have : slV (ρ1.set i (.v d)) i = some d := by
      unfold slV
      rw [List.getElem?_set_self (slN_iff hi).1]
    rw [this]
    exact ⟨rfl, rfl⟩
  · rw [filt_map p _ (fun _ => rfl)]
    exact q
/-! rows of the newer terms -/
section
variable {Q : D → En → Prop} {R : Xn → En → Prop} {ρ : En}
theorem pz_pop {i : Nat} {e : Ex} {z : Lz (Q, R)} : ((Ex.pop i e).den ρ).Pz Q R z = (isOwn ρ i = true ∧ (e.den ρ).Pz (fun d ρ1 => (popD i d ρ1).Pz Q R .mk) R .mk) := by
  cases z
  show Out.Pz (if isOwn ρ i = true then (e.den ρ).bind (popD i) else .no) Q R .mk = _
  rw [pz_ite, pz_bind, pz_no, if_F]
theorem popD_ok {i : Nat} {j : Nat} {ds : List D} {z : Lz (Q, R)} (h : lstAt ρ i = some ds) (hj : j < ds.length) (hz : ds.length ≤ 1000000) : (popD i (.int (j : Int)) ρ).Pz Q R z = Q ds[j] (ρ.set i (.o (.lst (ds.eraseIdx j)))) := by
  have hs : seqIndex? (j : Int) ds.length = some j := by
    have h0 : ¬ ((j : Int) < 0) := by omega
    unfold seqIndex?
    simp [hj, h0]
  unfold popD
  rw [h]
  simp only [hs, List.getElem?_eq_getElem hj]
  rw [if_pos (by omega)]
  rfl
theorem pz_oinD {neg : Bool} {a : Ex} {i : Nat} {Q : Bool → En → Prop} {z : Lz (Q, R)} : (oinD neg a i ρ).Pz Q R z = (isOwn ρ i = true ∧ (a.den ρ).Pz (fun x ρ1 => OPz (lstAt ρ1 i) (fun ds => OPz (inDs x ds) (fun b => Q (if neg then !b else b) ρ1) .mk) .mk) R .mk) := by
  cases z
  unfold oinD
  rw [pz_ite, pz_bind, pz_no, if_F]
  congr 1
  refine pz_ext fun x ρ1 => ?_
  rw [pz_lift, oz_bind]
  cases lstAt ρ1 i with
  | none => rfl
  | some ds =>
    show OPz (Option.map _ (inDs x ds)) _ .mk = OPz (inDs x ds) _ .mk
    rw [oz_map]
theorem w_oin_den {neg : Bool} {a : Ex} {i : Nat} {z : Lz (Q, R)} : ((Ex.oin neg a i).den ρ).Pz Q R z = (oinD neg a i ρ).Pz (fun b ρ1 => Q (.bl b) ρ1) R .mk := by
  cases z
  show Out.Pz ((oinD neg a i ρ).bind fun b ρ1 => .ok (.bl b) ρ1) Q R .mk = _
  rw [pz_bind]
  rfl
theorem w_oin_tst {neg : Bool} {a : Ex} {i : Nat} {Q : Bool → En → Prop} {z : Lz (Q, R)} : ((Ex.oin neg a i).tst ρ).Pz Q R z = (oinD neg a i ρ).Pz Q R .mk := id rfl
theorem pz_dChn {g1 g2 : D → D → Option Bool} {a b c : Ex} {Q : Bool → En → Prop} {z : Lz (Q, R)} : (dChn g1 g2 a b c ρ).Pz Q R z = (a.den ρ).Pz (fun x ρ1 => (b.den ρ1).Pz (fun y ρ2 => OPz (g1 x y) (fun t => if t = true then (c.den ρ2).Pz (fun z ρ4 => OPz (g2 y z) (fun t2 => Q t2 ρ4) .mk) R .mk else Q false ρ2) .mk) R .mk) R .mk := by
  cases z
  unfold dChn
  rw [pz_bind]
  refine pz_ext fun x ρ1 => ?_
  rw [pz_bind]
  refine pz_ext fun y ρ2 => ?_
  rw [pz_bind, pz_lift]
  cases g1 x y with
  | none => rfl
  | some t =>
    show Out.Pz (if t = true then _ else _) Q R .mk = (if t = true then _ else _)
    cases t with
    | false => rfl
    | true =>
      simp only [if_true]
      rw [pz_bind]
      refine pz_ext fun z ρ4 => ?_
      rw [pz_lift]
theorem w_fx_add {a b : Ex} {Q : List D → En → Prop} {z : Lz (Q, R)} : ((Fx.add a b).den ρ).Pz Q R z = (a.den ρ).Pz (fun x ρ1 => (b.den ρ1).Pz (fun y ρ2 => OPz (catL x y) (fun zs => Q zs ρ2) .mk) R .mk) R .mk := by
  cases z
  show Out.Pz ((a.den ρ).bind fun x ρ1 => (b.den ρ1).bind fun y ρ2 => Out.lift (catL x y) ρ2) Q R .mk = _
  rw [pz_bind]
  refine pz_ext fun x ρ1 => ?_
  rw [pz_bind]
  refine pz_ext fun y ρ2 => ?_
  rw [pz_lift]
theorem w_fx_list {a : Ex} {Q : List D → En → Prop} {z : Lz (Q, R)} : ((Fx.list a).den ρ).Pz Q R z = (a.den ρ).Pz (fun x ρ1 => OPz (listL x) (fun zs => Q zs ρ1) .mk) R .mk := by
  cases z
  show Out.Pz ((a.den ρ).bind fun x ρ1 => Out.lift (listL x) ρ1) Q R .mk = _
  rw [pz_bind]
  refine pz_ext fun x ρ1 => ?_
  rw [pz_lift]
theorem w_fx_lc2 {s : Sr} {t : Tg} {cs : Cs} {s1 : Sr} {t1 : Tg} {cs1 : Cs} {e : Ex} {vs vs1 : List Nat} {Q : List D → En → Prop} {z : Lz (Q, R)} : ((Fx.lc2 s t cs s1 t1 cs1 e vs vs1).den ρ).Pz Q R z = (lc2D s.den vs vs1 t.den cs.den s1.den t1.den cs1.den e.den ρ).Pz Q R .mk := id rfl
theorem e_catL (a b : List D) : catL (.lst a) (.lst b) = if a.length + b.length ≤ sizeLine then some (a ++ b) else none := id rfl
theorem e_listL_lst (a : List D) : listL (.lst a) = some a := id rfl
theorem e_listL_tup (a : List D) : listL (.tup a) = some a := id rfl
/-- a comprehension of two fors -/
theorem lc2Go_post {vs vs1 : List Nat} {tg : D → En → Option En} {cond : En → Out Bool} {src1 : En → Out (List D)} {tg1 : D → En → Option En} {cond1 : En → Out Bool} {elt : En → Out D} (I : List D → List D → En → Prop)
    (st : ∀ d r ys ρ, I (d :: r) ys ρ → OP (tg d (wipeE ρ vs)) fun ρ2 => (cond ρ2).Post (fun t ρ3 => if t = true then (src1 ρ3).Post (fun es ρ4 => (lcGo vs1 tg1 cond1 elt es ρ4).Post (fun zs ρ5 => I r (ys ++ zs) ρ5) fun _ _ => False) (fun _ _ => False) else I r ys ρ3) fun _ _ => False) :
    ∀ {ds ys : List D} {ρ : En}, I ds ys ρ → (lc2Go vs vs1 tg cond src1 tg1 cond1 elt ds ρ).Post (fun zs ρ' => I [] (ys ++ zs) ρ') fun _ _ => False
  | [], ys, ρ, h => by
    show I [] (ys ++ []) ρ
    rw [List.append_nil]
    exact h
  | d :: ds, ys, ρ, h => by
    have q := st d ds ys ρ h
    unfold lc2Go
    cases ht : tg d (wipeE ρ vs) with
    | none => rw [ht] at q; exact q.elim
    | some ρ1 =>
      rw [ht] at q
      have q : (cond ρ1).Post _ _ := q
      show Out.Post ((cond ρ1).bind _) _ _
      rw [wp_bind]
      refine Out.Post.mono q (fun t ρ3 z => ?_) fun _ _ z => z
      cases t with
      | false =>
        simp only [Bool.false_eq_true, if_false] at z ⊢
        exact lc2Go_post I st z
      | true =>
        simp only [if_true] at z ⊢
        rw [wp_bind]
        refine Out.Post.mono z (fun es ρ4 w => ?_) fun _ _ z => z
        rw [wp_bind]
        refine Out.Post.mono w (fun zs ρ5 u => ?_) fun _ _ z => z
        rw [wp_bind]
        refine Out.Post.mono (lc2Go_post I st u) (fun zs2 ρ6 u2 => ?_) fun _ _ z => z
        show I [] (ys ++ (zs ++ zs2)) ρ6
        rw [← List.append_assoc]
        exact u2
theorem pz_lc2D {src : En → Out (List D)} {vs vs1 : List Nat} {tg : D → En → Option En} {cond : En → Out Bool} {src1 : En → Out (List D)} {tg1 : D → En → Option En} {cond1 : En → Out Bool} {elt : En → Out D} {Q : List D → En → Prop} {z : Lz (Q, R)}
    (h : (src ρ).Pz (fun ds ρ1 => noOwn ρ1 vs = true ∧ ∃ I : List D → List D → En → Prop, I ds [] ρ1 ∧
      (∀ d r ys ρ, I (d :: r) ys ρ → OPz (tg d (wipeE ρ vs)) (fun ρ2 => (cond ρ2).Pz (fun t ρ3 => if t = true then (src1 ρ3).Pz (fun es ρ4 => (lcGo vs1 tg1 cond1 elt es ρ4).Pz (fun zs ρ5 => I r (ys ++ zs) ρ5) (fun _ _ => False) .mk) (fun _ _ => False) .mk else I r ys ρ3) (fun _ _ => False) .mk) .mk) ∧
      ∀ ys ρ', I [] ys ρ' → ys.length ≤ sizeLine ∧ Q ys (backE ρ1 vs ρ')) R .mk) : (lc2D src vs vs1 tg cond src1 tg1 cond1 elt ρ).Pz Q R z := by
  show Out.Post _ _ _
  unfold lc2D
  rw [wp_bind]
  refine Out.Post.mono h (fun ds ρ1 ⟨h1, I, h2, h3, h4⟩ => ?_) fun _ _ z => z
  rw [if_pos h1, wp_bind]
  have q := lc2Go_post (ds := ds) (ys := []) I h3 h2
  cases hg : lc2Go vs vs1 tg cond src1 tg1 cond1 elt ds ρ1 with
  | no => rw [hg] at q; exact q.elim
  | er x ρ' => rw [hg] at q; exact q.elim
  | ok zs ρ' =>
    rw [hg] at q
    have q : I [] ([] ++ zs) ρ' := q
    rw [List.nil_append] at q
    obtain ⟨h5, h6⟩ := h4 _ _ q
    show Out.Post (if zs.length ≤ sizeLine then Out.ok zs (backE ρ1 vs ρ') else .no) Q R
    rw [if_pos h5]
    exact h6
theorem fz_recDen {mk : (List D → FO) → Df} {n : Nat} {ds : List D} {Q : D → List D → Prop} {R : Xn → List D → Prop} : (recDen mk (n + 1) ds).Post Q R = ((mk (recDen mk n)).body.den (startE (mk (recDen mk n)).N.length (mk (recDen mk n)).io ds)).Pz (Pq.df (mk (recDen mk n)) Q R) .mk := fz_den (mk (recDen mk n))
end
end Ev
set_option Elab.async false
set_option maxRecDepth 100000
set_option maxHeartbeats 4000000
/-! EvCC: dicts whose keys are tuples: their making by a comprehension, their look-up. -/
namespace Ev
open PySem PySem.Spec PyProof.Rows L2
section
variable {X : Cx} {L : Lx} {pins : List (Addr × Obj)} {σ : L2.St} {H : Hp} {s : Shared} {O : List Addr}
mutual
theorem Rep.nest (I : Inv X pins σ H s) {v : V} {d : D} : Rep (zx X L) H O v d → ∀ {k : NestedKey} {u : Value}, D.key d = some k → RelV v u → NestedIs s.heap k u
  | .non, _, _, e, r => by cases e; cases r; exact .none
  | .bl _, _, _, e, _ => by cases e
  | .int i, _, _, e, r => by cases e; obtain ⟨t, rfl⟩ := r; exact .int _ _
  | .str z _, _, _, e, r => by cases e; obtain ⟨t, rfl⟩ := r; exact .text _ _
  | .tup h q, _, _, e, r => by
    cases r
    obtain ⟨ks, e2, rfl⟩ := Option.map_eq_some_iff.mp (show (Ds.key _).map NestedKey.tup = some _ from e)
    obtain ⟨its, rv, ⟨o, h1, h2, n, h3⟩, _⟩ := I.tuple (.inl (.inl h.1))
    exact .tup h1 h2 h3 (by simpa using Reps.nest I q e2 rv)
  | .tupK h q, _, _, e, r => by
    cases r
    obtain ⟨ks, e2, rfl⟩ := Option.map_eq_some_iff.mp (show (Ds.key _).map NestedKey.tup = some _ from e)
    obtain ⟨its, rv, ⟨o, h1, h2, n, h3⟩, _⟩ := I.tuple (SqT.ofK h H)
    exact .tup h1 h2 h3 (by simpa using Reps.nest I q e2 rv)
  | .lst _ _, _, _, e, _ => by cases e
  | .scr _, _, _, e, _ => by cases e
  | .scrK _, _, _, e, _ => by cases e
  | .dic0 _, _, _, e, _ => by cases e
  | .dicN _ _, _, _, e, _ => by cases e
  | .clo _ _ _ _ _, _, _, e, _ => by cases e
theorem Reps.nest (I : Inv X pins σ H s) {vs : List V} {ds : List D} : Reps (zx X L) H O vs ds → ∀ {ks : List NestedKey} {us : List Value}, Ds.key ds = some ks → Vals vs us → NestedAll s.heap ks us
  | .nil, _, _, e, r => by cases e; cases r; exact .nil
  | .cons q t, _, _, e, r => by
    obtain ⟨k, e1, e2⟩ := Option.bind_eq_some_iff.mp (show (D.key _).bind _ = some _ from e)
    obtain ⟨ks, e3, rfl⟩ := Option.map_eq_some_iff.mp e2
    cases r with
    | cons r1 r2 => exact .cons (Rep.nest I q e1 r1) (Reps.nest I t e3 r2)
end
theorem keyT_of {d : D} {k : NestedKey} (h : keyT d = some k) : D.key d = some k ∧ k.depth ≤ 8 ∧ ∃ xs, d = .tup xs := by
  unfold keyT at h
  split at h
  · obtain ⟨k', e1, e2⟩ := Option.bind_eq_some_iff.mp h
    split at e2
    · rename_i hd
      cases e2
      exact ⟨e1, hd, _, rfl⟩
    · cases e2
  · cases h
theorem Rep.isKey (I : Inv X pins σ H s) {b : Addr} {d : D} {k : NestedKey} (r : Rep (zx X L) H O (.ref b) d) (h : keyT d = some k) : (nestedKind X.prog X.w).is s.heap k b := ⟨r.nest I (keyT_of h).1 rfl, (keyT_of h).2.1⟩
theorem Rep.keyRef {v : V} {d : D} {k : NestedKey} (r : Rep (zx X L) H O v d) (h : keyT d = some k) : ∃ b, v = .ref b := by
  obtain ⟨_, _, xs, rfl⟩ := keyT_of h
  obtain ⟨p, _, rfl, _⟩ := r.tupSq
  exact ⟨p, rfl⟩
def NRel (xs : List (NestedKey × Addr × V)) (vs : List (NestedKey × Addr × Value)) : Prop := Paired (fun (p : NestedKey × Addr × V) (q : NestedKey × Addr × Value) => p.1 = q.1 ∧ p.2.1 = q.2.1 ∧ RelV p.2.2 q.2.2) xs vs
theorem NRel.keys {xs : List (NestedKey × Addr × V)} {vs : List (NestedKey × Addr × Value)} (r : NRel xs vs) : xs.map (·.1) = vs.map (·.1) := by
  unfold NRel at r
  induction r with
  | nil => rfl
  | cons h _ ih => rw [List.map_cons, List.map_cons, ih, h.1]
theorem NRel.snoc {xs : List (NestedKey × Addr × V)} {vs : List (NestedKey × Addr × Value)} {k : NestedKey} {b : Addr} {z : V} {u : Value} (r : NRel xs vs) (h : RelV z u) : NRel (xs ++ [(k, b, z)]) (vs ++ [(k, b, u)]) := by
  unfold NRel at r ⊢
  induction r with
  | nil => exact .cons ⟨rfl, rfl, h⟩ .nil
  | cons h _ ih => exact .cons h ih
theorem ents_keys {xs : List (NestedKey × Addr × V)} {es : List (D × D)} {vs : List (NestedKey × Addr × Value)} (I : Inv X pins σ H s) (r : NRel xs vs) : Ents (zx X L) H O xs es → ∀ x ∈ vs, (nestedKind X.prog X.w).is s.heap x.1 x.2.1 := by
  unfold NRel at r
  induction r generalizing es with
  | nil => exact fun _ _ h => nomatch h
  | @cons p q xs vs h _ ih =>
    intro e
    obtain ⟨p1, p2, p3⟩ := p
    obtain ⟨q1, q2, q3⟩ := q
    obtain ⟨h1, h2, h3⟩ := h
    cases h1; cases h2
    cases e with
    | cons g1 g2 g3 t =>
      intro x hx
      rcases List.mem_cons.mp hx with z | z
      · rw [z]; exact g2.isKey I g1
      · exact ih t x z
/-- the dict as the library tells it -/
theorem dn_read {D0 : Addr} {xs : List (NestedKey × Addr × V)} {es : List (D × D)} (I : Inv X pins σ H s) (hD : H D0 = some (DictN X.w D0 xs)) (r : Ents (zx X L) H O xs es) :
    ∃ vs, NRel xs vs ∧ xs.length ≤ sizeLine ∧ (D0 == sysModules) = false ∧ s.heap.DictOfH (nestedKind X.prog X.w) D0 vs := by
  obtain ⟨⟨vs, h1, h2, h3, h4, o, es', ep, g1, g2, g3, g4⟩, _⟩ := I.hok D0 _ hD
  exact ⟨vs, h1, h2, h3, o, es', ep, g1, g2, g3, g4, ents_keys I h1 r, h4⟩
theorem dn_ok {P : Program} {w : World} {H' : Hp} {h' : Heap} {D0 : Addr} {xs : List (NestedKey × Addr × V)} {vs : List (NestedKey × Addr × Value)} (r : NRel xs vs) (hl : xs.length ≤ sizeLine) (hs : (D0 == sysModules) = false) (hm : h'.DictOfH (nestedKind P w) D0 vs) :
    ObjOk P w H' h' D0 (DictN w D0 xs) := by
  obtain ⟨o, es, ep, g1, g2, g3, g4, _, g6⟩ := hm
  refine ⟨⟨vs, r, hl, hs, g6, o, es, ep, g1, g2, g3, g4⟩, ⟨o, g1⟩, ?_⟩
  rintro h1 h2 ⟨vs', q1, q2, q3, q4, o', es', ep', k1, k2, k3, k4⟩ st
  exact ⟨vs', q1, q2, q3, q4, o', es', ep', st _ k1, k2, k3, k4⟩
theorem dn_empty {P : Program} {w : World} {H : Hp} (h : Heap) (hb : sysModules < h.objs.size) : ObjOk P w H (h.push { cls := .type "dict", data := .dict #[] }) h.objs.size (DictN w h.objs.size []) :=
  dn_ok (P := P) (vs := []) .nil (Nat.zero_le _) (beq_eq_false_iff_ne.mpr (Ne.symm (Nat.ne_of_lt hb))) (Heap.DictOfH.new h)
theorem atKey_none {vs : List (NestedKey × Addr × Value)} {k : NestedKey} (h : k ∉ vs.map (·.1)) : atKey vs k = none := by
  unfold atKey
  rw [List.find?_eq_none.mpr]
  · rfl
  · intro x hx z
    exact h (List.mem_map.mpr ⟨x, hx, by simpa using z⟩)
/-- d[k] = v by a comprehension, k not yet there -/
theorem dn_set {E : Value → Shared → Prop} {D0 b : Addr} {xs : List (NestedKey × Addr × V)} {es : List (D × D)} {kd : D} {k : NestedKey} {z : V} {u r : Value} {Q : Unit → Shared → Prop} (hu : X.A.units + 8 < cLine) (I : Inv X pins σ H s) (hD : H D0 = some (DictN X.w D0 xs)) (re : Ents (zx X L) H O xs es)
    (rk : Rep (zx X L) H O (.ref b) kd) (ek : keyT kd = some k) (hn : k ∉ xs.map (·.1)) (hz : xs.length < sizeLine) (ru : RelV (.ref b) u) (rv : RelV z r)
    (h : ∀ s', Inv X pins σ (upd H D0 (DictN X.w D0 (xs ++ [(k, b, z)]))) s' → Q () s') : wpAny (model X.prog X.w) X.A (dictSet D0 u r) Q E s := by
  obtain ⟨vs, r1, h2, h3, dd⟩ := dn_read I hD re
  cases ru
  have hlen : vs.length = xs.length := by have := congrArg List.length r1.keys; simpa using this.symm
  have hk : atKey vs k = none := atKey_none (by rw [← r1.keys]; exact hn)
  refine wpAny_dictSet_heap (hsz := by omega) hu (rk.isKey I ek) dd fun h' dd' hs => h _ ?_
  rw [storedH_new hk] at dd'
  have he : ∃ q, h'.get? D0 = some q := let ⟨q, _, _, hq, _⟩ := dd'; ⟨q, hq⟩
  exact d_write I (by rw [hD]; exact True.intro) hs he (dn_ok (r1.snoc rv) (by rw [List.length_append, List.length_singleton]; omega) h3 dd')
end
/-! ### look-up -/
def lookE : List (D × D) → NestedKey → Option D
  | [], _ => none
  | (kd, vd) :: es, k => if keyT kd = some k then some vd else lookE es k
def lookD : D → D → Option D := fun d kd => match d with
  | .dic es => (keyT kd).bind (lookE es)
  | _ => none
theorem ents_look {Z : Zx} {H : Hp} {O : List Addr} : ∀ {xs : List (NestedKey × Addr × V)} {es : List (D × D)} {vs : List (NestedKey × Addr × Value)} {k : NestedKey} {vd : D}, Ents Z H O xs es → NRel xs vs → lookE es k = some vd → ∃ p z, atKey vs k = some p ∧ RelV z p.2 ∧ Rep Z H O z vd
  | _, _, _, _, _, .nil, _, e => by cases e
  | _, _, _, k, vd, .cons (k := k') h1 h2 h3 t, r, e => by
    unfold NRel at r
    cases r with
    | @cons _ q _ vs h r =>
      obtain ⟨q1, q2, q3⟩ := q
      obtain ⟨g1, g2, g3⟩ := h
      have g1 : k' = q1 := g1
      subst g1
      unfold lookE at e
      unfold atKey
      by_cases hk : k' = k
      · subst hk
        rw [if_pos h1] at e
        cases e
        exact ⟨(q2, q3), _, by simp, g3, h3⟩
      · rw [if_neg (by rw [h1]; exact fun z => hk (Option.some.inj z))] at e
        obtain ⟨p, z, a1, a2, a3⟩ := ents_look t r e
        refine ⟨p, z, ?_, a2, a3⟩
        unfold atKey at a1
        rw [List.find?_cons_of_neg (by simpa using hk)]
        exact a1
def rIxN (X : Cx) (L : Lx) : R2 := fun x y H Q => ∃ O d kd z, Rep (zx X L) H O x d ∧ Rep (zx X L) H O y kd ∧ lookD d kd = some z ∧ ∀ u, Rep (zx X L) H O u z → Q u H
theorem ix_dictN {X : Cx} {L : Lx} (hu : X.A.units + 16 < cLine) : IxR X (rIxN X L) := by
  intro value slice pins s σ H x y v u Q I rx ry h hs
  obtain ⟨O, d, kd, zd, rd, rk, hl, q⟩ := h
  unfold lookD at hl
  split at hl
  · rename_i es
    obtain ⟨k, ek, hl⟩ := Option.bind_eq_some_iff.mp hl
    obtain ⟨b, rfl⟩ := rk.keyRef ek
    cases ry
    cases rd with
    | dic0 h1 => cases hl
    | dicN h1 re =>
      cases rx
      obtain ⟨vs, r1, h2, h3, dd⟩ := dn_read I h1.1 re
      obtain ⟨p, z, a1, a2, a3⟩ := ents_look re r1 hl
      exact tail_any dd.typeIs slot_dict_getitem.lookup (wpAny_getItem_heap (by show X.A.units + 1 + 8 < cLine; omega) (rk.isKey I ek) dd a1 ⟨z, H, I.tok _, a2, q z a3⟩) hs
  · cases hl
/-- d[k], k a tuple -/
def Ex.didx (a i : Ex) : Ex := .plain (dOp2 lookD a i) (fun k x => match x with | .Subscript x y _ => plainIx y && a.chk k x && i.chk k y | _ => false) (a.need.app i.need) (fun {X L A W lev k} c n x h => by
  cases x with
  | Subscript x y pos =>
    have h : (plainIx y && a.chk k x && i.chk k y) = true := h
    simp only [Bool.and_eq_true] at h
    exact PE.weak (pe_ix (ix_dictN (L := L) (by have := c.room.units; omega)) (a.ok c n.left x h.1.2) (i.ok c n.right y h.2) (plainIx_of h.1.1)) fun σ H Q q => s_op2 (fun H O v w d e z Q t rv rw' hz q => ⟨O, d, e, z, rv, rw', hz, fun u ru => q u H (Same.refl H) ru⟩) q
  | _ => cases h) (fun k x h => by cases x <;> first | rfl | cases h)
end Ev
set_option Elab.async false
set_option maxRecDepth 100000
set_option maxHeartbeats 4000000
/-! EvDD: {k: v for .. in ..}, the keys tuples. -/
namespace Ev
open PySem PySem.Spec PyProof.Rows L2
/-- a turn's store -/
def StepN (Z : Zx) (D0 : Addr) (y z : V) (H : Hp) (Nx : Hp → Prop) : Prop :=
  ∃ (O : List Addr) (kd : D) (k : NestedKey) (b : Addr) (xs : List (NestedKey × Addr × V)) (es : List (D × D)), y = .ref b ∧ keyT kd = some k ∧ Rep Z H O (.ref b) kd ∧ H D0 = some (DictN Z.w D0 xs) ∧ Ents Z H O xs es ∧ k ∉ xs.map (·.1) ∧
    xs.length < sizeLine ∧ Nx (upd H D0 (DictN Z.w D0 (xs ++ [(k, b, z)])))
def tDN (Z : Zx) (wi : TI) (g : TG) (tt : TT) (tk tv : TE) (vs : List Nat) : TE := fun σ H Q => wi σ H fun J H1 => ∀ D0, H1 D0 = none → ∃ W : Nat → Nat → Hp → Prop, (∃ m, W 0 m (upd H1 D0 (DictN Z.w D0 []))) ∧
  ∀ i m H, W i m H → (J.stop i H ∧ Q (.ref D0) H) ∨ (J.go i H ∧ ∃ Nx : Hp → Prop, (∀ H', Nx H' → ∃ m', m' < m ∧ W (i + 1) m' H') ∧
    ∀ x H', J.yld i H x H' → g x (wipe σ vs) H' fun σ2 H2 => wipe σ2 vs = wipe σ vs ∧ tt σ2 H2 fun b H3 => if b = true then tk σ2 H3 fun y H4 => tv σ2 H4 fun z H5 => StepN Z D0 y z H5 Nx else Nx H3)
section
variable {X : Cx} {L : Lx}
theorem pe_dcN {kx vx tg iter : Expr} {ifs : List Expr} {scope : Scope} {own : List (Str × Nat)} {pos : Pos} {wi : TI} {g : TG} {tt : TT} {tk tv : TE} (hu : X.A.units + 8 < cLine) (hc : X.calm = true) (hN : X.N.Nodup) (hi : PI X tg iter wi) (ok : BlkOk X.N X.env.scope scope own)
    (hg : ∀ (s : Shared) (H : Hp) (C : Addr) (cl : List (Str × Addr)) (fp : List Addr), PG (X.blk s H scope (compEnvC scope cl C X.env) fp) tg g) (ht : ∀ (s : Shared) (H : Hp) (C : Addr) (cl : List (Str × Addr)) (fp : List Addr), PTs (X.blk s H scope (compEnvC scope cl C X.env) fp) ifs tt)
    (hk : ∀ (s : Shared) (H : Hp) (C : Addr) (cl : List (Str × Addr)) (fp : List Addr), PE (X.blk s H scope (compEnvC scope cl C X.env) fp) kx tk) (he : ∀ (s : Shared) (H : Hp) (C : Addr) (cl : List (Str × Addr)) (fp : List Addr), PE (X.blk s H scope (compEnvC scope cl C X.env) fp) vx tv)
    (hs : ∀ x, foldedSetIterable iter X.env x = pure x) : PE X (.DictComp kx vx [⟨tg, iter, ifs, 0⟩] scope pos) (tDN (zx X L) wi g tt tk tv (own.map (·.2))) := by
  refine ⟨fun pins s σ H Q I h => ?_⟩
  rw [arm_eval_DictComp]
  have freeOk : ∀ y ∈ scope.names, y.2 = .free → ∃ c, X.env.cells.lookup y.1 = some c := fun y hy e => (ok.free y hy e).elim (fun z => I.ok.has _ (.inl z)) fun z => I.ok.has _ (.inr z)
  refine wpAny_comprehension_free rfl hs (closure_ok freeOk) ok.kind (fun y hy e => by rw [ok.uniq y hy, e]) (thn (hi.run pins s σ H _ I h) fun xv sa hx => thn hx fun itv sb hsb => ?_)
  obtain ⟨it, fp, tn, J, Ha, e, Ia, T, sta, fa, turns⟩ := hsb
  subst e
  refine wpAny_newObj_type (newEnv_comp ?_)
  generalize eD : sb.heap.objs.size = D0
  have freshD : Ha D0 = none := Ia.hok.fresh (Nat.le_of_eq eD)
  obtain ⟨W, ⟨m0, w0⟩, turn⟩ := turns D0 freshD
  generalize esc : ({ sb with heap := sb.heap.push { cls := .type "dict", data := .dict #[] } } : Shared) = sc
  have Ic : Inv X pins σ (upd Ha D0 (DictN X.w D0 [])) sc := by
    rw [← esc, ← eD]
    exact Ia.laid (t' := sb.toks) (fun b o e => Heap.get?_push_of_some _ e) (Nat.le_refl _) (dn_empty sb.heap Ia.big)
  have hpc : sc.heap = sb.heap.push { cls := .type "dict", data := .dict #[] } := by rw [← esc]
  have below : ∀ b ∈ fp, b < sb.heap.objs.size := fun b hb => let ⟨o, e, _⟩ := T.obj _ _ sta b hb; Heap.lt_size e
  have fc : ∀ b ∈ fp, FpOk X pins (upd Ha D0 (DictN X.w D0 [])) b ∧ b < sc.heap.objs.size := fun b hb => by
    have lt := below b hb
    exact ⟨⟨by rw [upd_ne (by rw [← eD]; exact Nat.ne_of_lt lt)]; exact (fa b hb).1, (fa b hb).2⟩, by rw [hpc, Heap.size_push]; exact Nat.lt_succ_of_lt lt⟩
  have stc : tn 0 sc.heap := T.keep _ _ _ sta fun b _ o e => by rw [hpc]; exact Heap.get?_push_of_some _ e
  have Id := block_start Ic ok hN fc
  let cls := cellsFrom (sc.heap.objs.size + 1) scope.names (cloFrom X.env.cells scope.names [])
  have pg := hg sc (upd Ha D0 (DictN X.w D0 [])) sc.heap.objs.size cls fp
  have pt := ht sc (upd Ha D0 (DictN X.w D0 [])) sc.heap.objs.size cls fp
  have pk := hk sc (upd Ha D0 (DictN X.w D0 [])) sc.heap.objs.size cls fp
  have pv := he sc (upd Ha D0 (DictN X.w D0 [])) sc.heap.objs.size cls fp
  have hRR : ∀ C s' m H', Inv X pins σ H' s' → Q (.ref D0) H' → s'.heap.Ns C m → FpOk X pins H' C → compPost (model X.prog X.w) X.A X.xe none (EP X pins σ Q) (.ref D0) C (.ok .next) s' := fun C s' m H' I' q hn f => ⟨m, hn, fun h'' sb => by
    obtain ⟨f0, f1, f2, f3, f4, f5⟩ := f
    exact ⟨.ref D0, H', I'.turned (t' := s'.toks) (fun b o hb e => (sb.2 b hb).trans e) f0 f1 f3 f4 f5, rfl, q⟩⟩
  show codeAny _ _ (.compStart (.DictComp kx vx [⟨tg, iter, ifs, 0⟩] scope pos) 0 (.ref it) (.ref D0) (compEnvC scope cls sc.heap.objs.size X.env)) (compPost (model X.prog X.w) X.A X.xe none (EP X pins σ Q) (.ref D0) sc.heap.objs.size) { sc with heap := pushCells (sc.heap.push { cls := .type "dict", data := .dict #[] }) scope.names }
  have nfp : ∀ b ∈ fp, (upd Ha D0 (DictN X.w D0 [])) b = none := fun b hb => (fc b hb).1.1
  have cL : (compEnvC scope cls sc.heap.objs.size X.env).locals = sc.heap.objs.size := rfl
  generalize hce : compEnvC scope cls sc.heap.objs.size X.env = ce at Id pg pt pk pv cL ⊢
  have w0 : W 0 m0 (upd Ha D0 (DictN X.w D0 [])) := w0
  generalize hHc : upd Ha D0 (DictN X.w D0 []) = Hc at Ic Id pg pt pk pv w0 nfp fc
  generalize hsd : ({ sc with heap := pushCells (sc.heap.push { cls := .type "dict", data := .dict #[] }) scope.names } : Shared) = sd at Id ⊢
  have std : tn 0 sd.heap := T.keep _ _ _ stc fun b _ o e => by rw [← hsd]; exact pushCells_keeps _ _ _ _ (Heap.get?_push_of_some _ e)
  have stat : ∀ {σ' : L2.St} {H' : Hp} {s' : Shared}, Inv (X.blk sc Hc scope ce fp) [] σ' H' s' → (∀ b ∈ fp, H' b = none) → ∀ b ∈ fp, FpOk (X.blk sc Hc scope ce fp) [] H' b := fun {σ' H' s'} I' hn b hb =>
    ⟨hn b hb, (I'.ok.exf b hb).1, I'.ok.exfs b hb, .inl hb, fun x c e => (I'.ok.exf b hb).2 x c e, fun p hp => absurd (show p ∈ ([] : List (Addr × Obj)) ++ [] from hp) (by simp)⟩
  refine codeAny_compStart_dict ?lp (T.self X.A 0 _ _ _ std ?lp)
  refine compLoop_anyD (fun n s' => ∃ i H', Inv (X.blk sc Hc scope ce fp) [] (wipe σ (own.map (·.2))) H' s' ∧ tn i s'.heap ∧ (∀ b ∈ fp, H' b = none) ∧ W i n H') ?_ m0 ⟨0, Hc, Id, std, nfp, w0⟩
  rintro n se ⟨i, He, Ie, ste, ne, we⟩
  rcases turn i n He we with ⟨stop, done⟩ | ⟨go, Nx, hNx, step⟩
  · refine thnF (T.done (X.blk sc Hc scope ce fp) rfl rfl rfl hc i [] se _ He (fun _ _ => False) Ie (stat Ie ne) ste stop) fun r sf ⟨hr, If⟩ => ?_
    subst hr
    have Ig : Inv X pins σ He sf := Ic.call' (ch := fp) If.os If.base If.hok If.bare fun b hb => ⟨(fc b hb).1.2.2.2.1, (fc b hb).1.2.1, (fc b hb).1.2.2.2.2.1, (fc b hb).1.2.2.2.2.2⟩
    have nC : He sc.heap.objs.size = none := by
      have z : He ce.locals = none := If.free
      rwa [cL] at z
    obtain ⟨m, hn, _⟩ := If.loc
    have hn : sf.heap.Ns ce.locals m := hn
    rw [cL] at hn
    exact hRR sc.heap.objs.size sf m He Ig done hn (Ic.fpOk (Nat.le_refl _) nC)
  · refine thnF (T.item (X.blk sc Hc scope ce fp) rfl rfl rfl hc i [] se _ He (fun _ _ => False) Ie (stat Ie ne) ste go) fun r sf ⟨u, hr, hf⟩ => ?_
    subst hr
    refine thnF hf fun _ sg ⟨x, Hg, Ig, rg, yg, stg, ng⟩ => thnF (pg.run _ sg _ Hg x u _ (Ig.pinned (stat Ig ng) (T.obj _ _ stg)) rg (step x Hg yg)) fun _ sh ⟨σh, Hh, Ih, hwh, qh⟩ => thnF (pt.run _ sh σh Hh _ Ih qh) fun b si ⟨Hi, Ii, qi⟩ => ?_
    have fin : ∀ {s' : Shared} {H' : Hp}, Inv (X.blk sc Hc scope ce fp) ([] ++ pinsAt fp sg.heap) σh H' s' → Nx H' → ∃ m, m < n ∧ ∃ i H', Inv (X.blk sc Hc scope ce fp) [] (wipe σ (own.map (·.2))) H' s' ∧ tn i s'.heap ∧ (∀ b ∈ fp, H' b = none) ∧ W i m H' := fun {s' H'} I' nx => by
      obtain ⟨m', hm, w'⟩ := hNx H' nx
      have pinned : ∀ b ∈ fp, ∀ o, sg.heap.get? b = some o → s'.heap.get? b = some o ∧ H' b = none := fun b hb o e =>
        ⟨(I'.pin (b, o) (List.mem_append_right _ (List.mem_append_right _ (mem_pinsAt hb e)))).1, (I'.pin (b, o) (List.mem_append_right _ (List.mem_append_right _ (mem_pinsAt hb e)))).2.1⟩
      refine ⟨m', hm, i + 1, H', (I'.unpinned (pins := [])).weak (by rw [← hwh, wipe_length]) (fun j v e => (wipe_some (by rw [← hwh] at e; exact e)).1), T.keep _ _ _ stg fun b hb o e => (pinned b hb o e).1, fun b hb => ?_, w'⟩
      obtain ⟨o, e, _⟩ := T.obj _ _ stg b hb
      exact (pinned b hb o e).2
    cases b with
    | false =>
      have qi : Nx Hi := qi
      exact fin Ii qi
    | true =>
      have qi : tk σh Hi fun y H4 => tv σh H4 fun z H5 => StepN (zx X L) D0 y z H5 Nx := qi
      refine thnF (pk.run _ si σh Hi _ Ii qi) fun z sj ⟨yk, Hj, Ij, rj, qj⟩ => thnF (pv.run _ sj σh Hj _ Ij qj) fun z2 sk ⟨yv, Hk, Ik, rk, O, kd, k, b, xs, es, ek, ekd, rkd, hDk, ents, hno, hlen, nx⟩ => ?_
      subst ek
      exact dn_set (X := X.blk sc Hc scope ce fp) (L := L) hu Ik hDk ents rkd ekd hno hlen rj rk fun sl Il => fin Il nx
end
end Ev
set_option Elab.async false
set_option maxRecDepth 100000
set_option maxHeartbeats 4000000
/-! EvEE: {k: v for .. in ..} as a term. -/
namespace Ev
open PySem PySem.Spec PyProof.Rows L2
theorem tabs_N {T : List NdefX.NTab} {H : Hp} {p : Addr} {w : World} {xs ys : List (NestedKey × Addr × V)} (t : NdefX.TabsN T H) (h : H p = some (DictN w p xs)) : NdefX.TabsN T (upd H p (DictN w p ys)) := fun q hq => by
  obtain ⟨ps, h1, h2, h3⟩ := t q hq
  refine ⟨ps, by rw [upd_ne (fun z => by rw [z, h] at h1; unfold DictN at h1; cases h1)]; exact h1, h2, fun pos cv hc => ?_⟩
  obtain ⟨c, e1, e2⟩ := h3 pos cv hc
  refine ⟨c, e1, ?_⟩
  by_cases hz : c = p
  · subst hz
    rw [h] at e2
    exact (code_ne_dict (Option.some.inj e2).symm).elim
  · rw [upd_ne hz]; exact e2
section
variable {Z : Zx} {A : An} {H H' : Hp} {O O' : List Addr} {σ : L2.St} {ρ : En}
theorem SR.pokeN (s : SR Z A H O σ ρ) {p : Addr} {w : World} {xs ys : List (NestedKey × Addr × V)} (hO : p ∈ O) (hA : A.H p = none) (hp : H p = some (DictN w p xs)) (hn : ∀ (j : Nat) (d : D), ρ[j]? = some (.o d) → σ[j]? ≠ some (some (.ref p))) :
    Ext H O (upd H p (DictN w p ys)) O ∧ SR Z A (upd H p (DictN w p ys)) O σ ρ := by
  have ex : Ext H O (upd H p (DictN w p ys)) O := Ext.write hO
  refine ⟨ex, ⟨s.len, fun j d h => ?_, fun j d h => ?_, s.sep, tabs_N s.tabs hp, fun b u q1 q2 q3 => ?_, fun b hb => ?_, s.sub, fun b hb => ?_, s.io⟩⟩
  · obtain ⟨v, q1, q2⟩ := s.val j d h
    exact ⟨v, q1, q2.ext ex⟩
  · obtain ⟨b, q1, ⟨zs, fs, q2, q3, q4, q5⟩, q6⟩ := s.own j d h
    refine ⟨b, q1, ⟨zs, fs, q2, q3, ?_, q5.ext ex⟩, q6⟩
    rw [upd_ne (fun z => hn j d h (by rw [q1, z]))]
    exact q4
  · rw [upd_ne (fun z => by rw [z, hA] at q1; cases q1)]
    exact s.anc b u q1 q2 q3
  · have q := s.dom b hb
    by_cases hz : b = p
    · rw [hz, upd_same]; exact fun z => nomatch z
    · rw [upd_ne hz]; exact q
  · by_cases hz : b = p
    · subst hz
      exact ⟨_, upd_same, fun ps z => (by unfold DictN at z; cases z), .inr ⟨w, ys, rfl⟩⟩
    · obtain ⟨u, q1, q2⟩ := s.trk b hb
      exact ⟨u, by rw [upd_ne hz]; exact q1, q2⟩
theorem SR.growN (s : SR Z A H O σ ρ) {p : Addr} {w : World} {xs : List (NestedKey × Addr × V)} (hp : H p = none) : Ext H O (upd H p (DictN w p xs)) (p :: O) ∧ SR Z A (upd H p (DictN w p xs)) (p :: O) σ ρ := by
  have ex : Ext H O (upd H p (DictN w p xs)) (p :: O) := (Ext.new hp).trans (Ext.write List.mem_cons_self)
  have sm : Same H (upd H p (DictN w p xs)) := same_new hp
  refine ⟨ex, ⟨s.len, fun j d h => ?_, fun j d h => ?_, s.sep, s.tabs.ext sm, fun b u q1 q2 q3 => sm b u (s.anc b u q1 q2 q3), fun b hb => same_dom sm (s.dom b hb), fun b hb => List.mem_cons_of_mem _ (s.sub b hb), fun b hb => ?_, s.io⟩⟩
  · obtain ⟨v, q1, q2⟩ := s.val j d h
    exact ⟨v, q1, q2.ext ex⟩
  · obtain ⟨b, q1, ⟨zs, fs, q2, q3, q4, q5⟩, q6⟩ := s.own j d h
    exact ⟨b, q1, ⟨zs, fs, q2, List.mem_cons_of_mem _ q3, sm _ _ q4, q5.ext ex⟩, q6⟩
  · rcases List.mem_cons.mp hb with z | z
    · subst z
      exact ⟨_, upd_same, fun ps z => (by unfold DictN at z; cases z), .inr ⟨w, xs, rfl⟩⟩
    · obtain ⟨u, q1, q2⟩ := s.trk b z
      exact ⟨u, sm _ _ q1, q2⟩
theorem Ents.snoc : ∀ {xs : List (NestedKey × Addr × V)} {es : List (D × D)} {k : NestedKey} {b : Addr} {v : V} {kd vd : D}, Ents Z H O xs es → keyT kd = some k → Rep Z H O (.ref b) kd → Rep Z H O v vd → Ents Z H O (xs ++ [(k, b, v)]) (es ++ [(kd, vd)])
  | _, _, _, _, _, _, _, .nil, e, r1, r2 => .cons e r1 r2 .nil
  | _, _, _, _, _, _, _, .cons e1 q1 q2 t, e, r1, r2 => .cons e1 q1 q2 (Ents.snoc t e r1 r2)
theorem Ents.len : ∀ {xs : List (NestedKey × Addr × V)} {es : List (D × D)}, Ents Z H O xs es → xs.length = es.length
  | _, _, .nil => rfl
  | _, _, .cons _ _ _ t => by rw [List.length_cons, List.length_cons, Ents.len t]
theorem Ents.mem {k : NestedKey} : ∀ {xs : List (NestedKey × Addr × V)} {es : List (D × D)}, Ents Z H O xs es → k ∈ xs.map (·.1) → ∃ e ∈ es, keyT e.1 = some k
  | _, _, .nil, h => nomatch h
  | _, _, .cons e _ _ t, h => by
    rcases List.mem_cons.mp h with z | z
    · subst z; exact ⟨_, List.mem_cons_self, e⟩
    · obtain ⟨x, h1, h2⟩ := Ents.mem t z
      exact ⟨x, List.mem_cons_of_mem _ h1, h2⟩
end
/-- may the key be stored: a tuple of texts, numbers, tuples, none such yet -/
def putOk (es : List (D × D)) (kd : D) : Bool := (keyT kd).isSome && es.all (fun e => decide (keyT e.1 ≠ keyT kd)) && decide (es.length < sizeLine)
def dcGo (vs : List Nat) (tg : D → En → Option En) (cond : En → Out Bool) (kelt velt : En → Out D) : List D → List (D × D) → En → Out (List (D × D))
  | [], es, ρ => .ok es ρ
  | d :: ds, es, ρ => match tg d (wipeE ρ vs) with
    | none => .no
    | some ρ1 => (cond ρ1).bind fun b ρ2 => if b = true then (kelt ρ2).bind fun kd ρ3 => (velt ρ3).bind fun vd ρ4 => if putOk es kd = true then dcGo vs tg cond kelt velt ds (es ++ [(kd, vd)]) ρ4 else .no else dcGo vs tg cond kelt velt ds es ρ2
def dicOf : List (D × D) → Option D
  | [] => none
  | e :: es => some (.dic (e :: es))
def dcD (src : En → Out (List D)) (vs : List Nat) (tg : D → En → Option En) (cond : En → Out Bool) (kelt velt : En → Out D) : En → Out D := fun ρ =>
  (src ρ).bind fun ds ρ1 => if noOwn ρ1 vs = true then (dcGo vs tg cond kelt velt ds [] ρ1).clean.bind fun es ρ2 => Out.lift (dicOf es) (backE ρ1 vs ρ2) else .no
section
variable {X : Cx} {L : Lx} {A : An} {W : WX} {lev : Nat} {k : Ck}
def dcT (Z : Zx) (A : An) (σ : L2.St) (vs : List Nat) (p : Addr) (K : List (D × D) → En → Prop) (H1 : Hp) (O1 : List Addr) (f : List (D × D) → En → Out (List (D × D))) (H : Hp) : Prop :=
  ∃ ρ O xs es, Ext H1 O1 H O ∧ SR Z A H O (wipe σ vs) (wipeE ρ vs) ∧ p ∈ O ∧ H p = some (DictN Z.w p xs) ∧ Ents Z H O xs es ∧ (∀ (j : Nat) (d : D), (wipeE ρ vs)[j]? = some (.o d) → (wipe σ vs)[j]? ≠ some (some (.ref p))) ∧
    (f es ρ).Post (fun es' ρ' => K es' ρ') (fun _ _ => False)
theorem dc_read {src : Sr} {t : Tg} {cs : Cs} {ek ev : Ex} {vs : List Nat} (hs : ∀ i ∈ t.sl, i ∈ vs) {σ : L2.St} {H : Hp} {Q : VK} (q : tS (zx X L) A W (dcD src.den vs t.den cs.den ek.den ev.den) σ H Q) :
    tDN (zx X L) (tI (zx X L) A W src.den) (gAny (zx X L) t.den t.sl) (tAnyT (zx X L) cs.den) (tAnyE (zx X L) ek.den) (tAnyE (zx X L) ev.den) vs σ H Q := by
  obtain ⟨ρ, O, s, q⟩ := q
  refine ⟨ρ, O, s, (Out.post_bind q).mono (fun ds ρ1 hk J H1 O1 e1 s1 wk p hp => ?_) fun _ _ z => z⟩
  split at hk
  case isFalse => exact hk.elim
  rename_i hno
  have hk := (Out.post_clean (Out.post_bind hk))
  have hvs : ∀ q ∈ A.io, q.1 ∉ vs := fun q hq z => by
    obtain ⟨_, d, h2⟩ := s1.io q hq
    exact noOwn_at hno z d h2
  have hAp : A.H p = none := by
    cases q : A.H p with
    | none => rfl
    | some u => exact absurd hp (s1.dom p (by rw [q]; exact fun z => nomatch z))
  have hpO : p ∉ O1 := s1.fresh hp
  have hAO : p ∉ A.O := fun z => hpO (s1.sub p z)
  obtain ⟨e2, s2⟩ := s1.growN (w := X.w) (xs := []) hp
  let K : List (D × D) → En → Prop := fun es ρ2 => (Out.lift (dicOf es) (backE ρ1 vs ρ2)).Post (fun d ρ' => KS (zx X L) A H O σ Q d ρ') (ErP (zx X L) A W H O)
  refine ⟨fun i m H => m = ds.length - i ∧ i ≤ ds.length ∧ dcT (zx X L) A σ vs p K H1 O1 (dcGo vs t.den cs.den ek.den ev.den (ds.drop i)) H, ⟨ds.length, by simp, Nat.zero_le _, ρ1, p :: O1, [], [], e2, s2.wipe hvs, List.mem_cons_self, upd_same, .nil, fun j d h1 h2 => ?_, hk⟩, ?_⟩
  · by_cases hj : j ∈ vs
    · have := wipeE_in hj h1
      cases this
    · rw [wipeE_out hj] at h1
      rw [wipe_out hj] at h2
      obtain ⟨a, g1, ⟨_, _, _, g2, _⟩, _⟩ := s1.own j d h1
      rw [h2] at g1
      cases g1
      exact hpO g2
  rintro i m H3 ⟨rfl, hi, ρ3, O3, xs, es, e3, s3, hpO3, hpH, rents, nown, hw⟩
  obtain ⟨w1, w2, w3⟩ := wk H3 O3 e3 s3.trk
  by_cases hlt : i < ds.length
  case neg =>
    have : i = ds.length := by omega
    subst this
    refine .inl ⟨w2, ?_⟩
    rw [List.drop_length] at hw
    have hK : K es ρ3 := hw
    have hK : (Out.lift (dicOf es) (backE ρ1 vs ρ3)).Post (fun d ρ' => KS (zx X L) A H O σ Q d ρ') (ErP (zx X L) A W H O) := hK
    cases es with
    | nil => exact hK.elim
    | cons e0 es =>
      have hK : KS (zx X L) A H O σ Q (.dic (e0 :: es)) (backE ρ1 vs ρ3) := hK
      have sb := s3.back s1 e3 hno
      obtain ⟨ex4, s4⟩ := sb.drop hAO (fun j d h1 h2 => by
        by_cases hj : j ∈ vs
        · have z := backE_in hj h1
          cases q : ρ1[j]? with
          | none => rw [q] at z; cases z
          | some u =>
            rw [q] at z
            have z : Sl.o d = u := z
            exact noOwn_at hno hj d (by rw [q, z])
        · rw [backE_out hj, ← wipeE_out hj] at h1
          rw [← wipe_out hj] at h2
          exact nown j d h1 h2)
      exact hK (.ref p) H3 (dropA p O3) ((e1.trans e3).trans ex4) s4 (.dicN ⟨hpH, fun z => (mem_dropA.mp z).2 rfl⟩ (rents.ext ex4))
  refine .inr ⟨w1 i hlt, dcT (zx X L) A σ vs p K H1 O1 (dcGo vs t.den cs.den ek.den ev.den (ds.drop (i + 1))), fun H' w => ⟨ds.length - (i + 1), by omega, rfl, hlt, w⟩, fun v H4 y => ?_⟩
  have hdr : ds.drop i = ds[i] :: ds.drop (i + 1) := (List.getElem_cons_drop hlt).symm
  rw [hdr] at hw
  obtain ⟨sm, rv⟩ := w3 i v H4 ds[i] (List.getElem?_eq_getElem hlt) y
  have hw : (match t.den ds[i] (wipeE ρ3 vs) with
    | none => Out.no
    | some ρ1 => (cs.den ρ1).bind fun b ρ2 => if b = true then (ek.den ρ2).bind fun kd ρ3 => (ev.den ρ3).bind fun vd ρ4 => if putOk es kd = true then dcGo vs t.den cs.den ek.den ev.den (ds.drop (i + 1)) (es ++ [(kd, vd)]) ρ4 else .no else dcGo vs t.den cs.den ek.den ev.den (ds.drop (i + 1)) es ρ2 : Out (List (D × D))).Post (fun es' ρ' => K es' ρ') (fun _ _ => False) := hw
  split at hw
  · exact hw.elim
  rename_i ρ4 htd
  have s4 := s3.same sm
  have x4 := Ext.same (O := O3) sm
  have hpW : p ∉ (here H4 O3 (wipe σ vs) (wipeE ρ3 vs)).W := fun z => by
    obtain ⟨j, d, g1, g2⟩ := here_W.mp z
    exact nown j d g1 g2
  have keep : ∀ {H5 : Hp} {O5 : List Addr} {σ2 : L2.St} {ρ5 : En}, SR (zx X L) (here H4 O3 (wipe σ vs) (wipeE ρ3 vs)) H5 O5 σ2 ρ5 → wipe σ2 vs = wipe σ vs → SR (zx X L) A H5 O5 (wipe σ vs) (wipeE ρ5 vs) ∧ p ∈ O5 ∧ H5 p = some (DictN X.w p xs) ∧ (∀ (j : Nat) (d : D), (wipeE ρ5 vs)[j]? = some (.o d) → (wipe σ vs)[j]? ≠ some (some (.ref p))) := fun {H5 O5 σ2 ρ5} s5 hw5 => by
    have hp5 := s5.anc p (DictN X.w p xs) (sm _ _ hpH) hpW (fun ps z => by unfold DictN at z; cases z)
    refine ⟨?_, s5.sub p hpO3, hp5, fun j d g1 g2 => ?_⟩
    · rw [← hw5]
      exact (s4.un s5).wipe hvs
    · rw [← hw5] at g2
      by_cases hj : j ∈ vs
      · have := wipeE_in hj g1
        cases this
      · rw [wipeE_out hj] at g1
        rw [wipe_out hj] at g2
        obtain ⟨a, q1, _, q2⟩ := s5.own j d g1
        rw [g2] at q1
        cases q1
        rcases q2 with q2 | ⟨q2, _⟩
        · exact hpW q2
        · rw [show (here H4 O3 (wipe σ vs) (wipeE ρ3 vs)).H p = H4 p from rfl, sm _ _ hpH] at q2
          cases q2
  refine ⟨here H4 O3 (wipe σ vs) (wipeE ρ3 vs), wipeE ρ3 vs, O3, ds[i], ρ4, s4.re, rv, htd, fun σ2 H5 O5 e5 s5 l5 g5 => ?_⟩
  have hw5 : wipe σ2 vs = wipe σ vs := wipe_eq l5 g5 hs
  refine ⟨hw5, _, ρ4, O5, s5, (Out.post_bind hw).mono (fun b ρ6 hk6 H6 O6 e6 s6 => ?_) fun _ _ z => z.elim⟩
  obtain ⟨sA6, hp6, hpH6, no6⟩ := keep s6 hw5
  have x6 : Ext H1 O1 H6 O6 := ((e3.trans x4).trans e5).trans e6
  have x36 := (x4.trans e5).trans e6
  cases b with
  | false =>
    rw [if_neg Bool.false_ne_true] at hk6 ⊢
    exact ⟨ρ6, O6, xs, es, x6, sA6, hp6, hpH6, rents.ext x36, no6, hk6⟩
  | true =>
    rw [if_pos rfl] at hk6 ⊢
    refine ⟨_, ρ6, O6, s6, (Out.post_bind hk6).mono (fun kd ρ7 hk7 wk7 H7 O7 e7 s7 rk7 => ?_) fun _ _ z => z.elim⟩
    refine ⟨_, ρ7, O7, s7, (Out.post_bind hk7).mono (fun vd ρ8 hk8 w8 H8 O8 e8 s8 rv8 => ?_) fun _ _ z => z.elim⟩
    obtain ⟨sA8, hp8, hpH8, no8⟩ := keep s8 hw5
    by_cases hput : putOk es kd = true
    case neg => rw [if_neg hput] at hk8; exact hk8.elim
    rw [if_pos hput] at hk8
    unfold putOk at hput
    simp only [Bool.and_eq_true, decide_eq_true_eq, List.all_eq_true] at hput
    obtain ⟨⟨h1, h2⟩, h3⟩ := hput
    obtain ⟨kk, hkk⟩ := Option.isSome_iff_exists.mp h1
    obtain ⟨b, rfl⟩ := rk7.keyRef hkk
    have x38 := (x36.trans e7).trans e8
    have rents8 := rents.ext x38
    have hnk : kk ∉ xs.map (·.1) := fun z => by
      obtain ⟨e, he, hek⟩ := rents.mem z
      exact h2 e he (by rw [hek, hkk])
    obtain ⟨ex9, s9⟩ := sA8.pokeN (ys := xs ++ [(kk, b, w8)]) hp8 hAp hpH8 no8
    exact ⟨O8, kd, kk, b, xs, es, rfl, hkk, rk7.ext e8, hpH8, rents8, hnk, by rw [rents.len]; exact h3, ρ8, O8, xs ++ [(kk, b, w8)], es ++ [(kd, vd)], ((x6.trans e7).trans e8).trans ex9, s9, hp8, upd_same, (rents8.snoc hkk (rk7.ext e8) rv8).ext ex9, no8, hk8⟩
def dcChk (src : Sr) (t : Tg) (cs : Cs) (ek ev : Ex) (vs : List Nat) (k : Ck) (x : Expr) : Bool := match x with
  | .DictComp kx vx [⟨tg, iter, ifs, 0⟩] scope _ => src.chk k tg iter && blkCk k scope vs && (t.sl.all fun i => vs.contains i) && t.chk (k.inner scope.names) tg && cs.chk (k.inner scope.names) ifs && ek.chk (k.inner scope.names) kx && ev.chk (k.inner scope.names) vx
  | _ => false
/-- {k: v for target in source if ..} -/
def Ex.dc (src : Sr) (t : Tg) (cs : Cs) (ek ev : Ex) (vs : List Nat) : Ex := .plain (dcD src.den vs t.den cs.den ek.den ev.den) (dcChk src t cs ek ev vs) (src.need.app (t.need.app (cs.need.app (ek.need.app ev.need)))) (fun {X L A W lev k} c n x h => by
    unfold dcChk at h
    split at h
    · rename_i kx vx tg iter ifs scope pos
      simp only [Bool.and_eq_true] at h
      obtain ⟨⟨⟨⟨⟨⟨h1, h2⟩, h3⟩, h4⟩, h5⟩, h6⟩, h7⟩ := h
      have hs : ∀ i ∈ t.sl, i ∈ vs := fun i hi => by simpa using List.all_eq_true.mp h3 i hi
      have p := pe_dcN (L := L) (pos := pos) (tt := tAnyT (zx X L) cs.den) (tk := tAnyE (zx X L) ek.den) (tv := tAnyE (zx X L) ev.den) (g := gAny (zx X L) t.den t.sl) (by have := c.room.units; omega) c.calm (by rw [c.N]; exact c.nd) (src.ok (W := W) (A := A) c n.left tg iter h1) (c.blkOk h2)
        (fun s H C cl fp => pg_ex fun A' => t.ok (c.blk (A' := A') s H scope C cl fp) (n.right.left.blk s H scope _ fp) tg h4)
        (fun s H C cl fp => pts_ex fun A' => cs.ok (c.blk (A' := A') s H scope C cl fp) (n.right.right.left.blk s H scope _ fp) ifs h5)
        (fun s H C cl fp => pe_ex fun A' => ek.ok (c.blk (A' := A') s H scope C cl fp) (n.right.right.right.left.blk s H scope _ fp) kx h6)
        (fun s H C cl fp => pe_ex fun A' => ev.ok (c.blk (A' := A') s H scope C cl fp) (n.right.right.right.right.blk s H scope _ fp) vx h7)
        (fun v => fold_of (src.fd k tg iter h1) _ v)
      rw [ownN_snd] at p
      exact PE.weak p fun σ H Q q => dc_read hs q
    · cases h) (fun k x h => by unfold dcChk at h; split at h <;> first | rfl | cases h)
end
end Ev
set_option Elab.async false
set_option maxRecDepth 100000
set_option maxHeartbeats 4000000
/-! EvFF: list.count of truths; weakest preconditions for the new terms. -/
namespace Ev
open PySem PySem.Spec PyProof.Rows L2
section
variable {X : Cx}
def rCountB : V → List V → Hp → VK → Prop := fun x xs H Q => ∃ (a : Addr) (bs : List Bool) (b : Bool), x = V.ref a ∧ xs = [V.bl b] ∧ SqL X.K H a (bs.map V.bl) ∧ Q (.int (bs.count b : Nat)) H
theorem count_bools {b : Bool} : ∀ {bs : List Bool} {us : List Value}, Vals (bs.map V.bl) us → us.countP (eqU (V.bl b)) = bs.count b
  | [], _, r => by cases r; rfl
  | c :: bs, _, r => by
    cases r with
    | cons h t =>
      cases h
      rw [List.countP_cons, count_bools t, List.count_cons]
      rfl
theorem mt_countB : MtR X "list.count" (rCountB (X := X)) := by
  intro pins s σ H x xs v us Q I rx rxs h
  obtain ⟨a, bs, b, rfl, rfl, hs, q⟩ := h
  cases rx
  cases rxs with
  | cons ry rt =>
    cases rt
    obtain ⟨its, rv, ⟨⟨cls, dd, data, sl⟩, n, ho, hc, hdn, hd⟩, hlen⟩ := I.list hs
    simp only at hc hd
    subst hc hd
    have fl : (bs.map V.bl).all flatV = true := by rw [List.all_map]; exact List.all_eq_true.mpr fun _ _ => rfl
    refine call_meets PySem.F.slot_list_count ⟨_, ho, rfl⟩ PySem.F.entry_list_count (PySem.F.args_list_count_2 _ _)
      (SeqAt.list_countAt a its.toArray n dd sl _ (eqU (V.bl b))) ⟨ho, fun u' hu' => mem_eqAt ry rfl rv fl u' (by simpa using hu'), ?_⟩
    have e : its.toArray.toList.countP (eqU (V.bl b)) = bs.count b := count_bools rv
    rw [e]
    exact ⟨.int (bs.count b : Nat), H, I.tok _, ⟨_, rfl⟩, q⟩
end
def countD : D → D → Option D
  | .lst ds, .bl b => (blsOf ds).map fun bs => .int ((bs.count b : Nat) : Int)
  | _, _ => none
def lcountD (a b : Ex) : En → Out D := fun ρ => (a.den ρ).bind fun x ρ1 => if isL x = true then (b.den ρ1).bind fun y ρ2 => Out.lift (countD x y) ρ2 else .no
def countChk (a b : Ck → Expr → Bool) (k : Ck) (x : Expr) : Bool := match x with
  | .Call (.Attribute o m apos) [y] [] cpos => decide (m = "count") && notSuper o && notStar y && decide (apos.endLine = cpos.line) && a k o && b k y
  | _ => false
/-- a.count(b), a list of truths -/
def Ex.lcount (a b : Ex) : Ex := .plain (lcountD a b) (countChk a.chk b.chk) (a.need.app b.need) (fun {X L A W lev k} c n x h => by
  unfold countChk at h
  split at h
  · rename_i o m apos y cpos
    simp only [Bool.and_eq_true, decide_eq_true_eq] at h
    obtain ⟨⟨⟨⟨⟨rfl, h1⟩, h2⟩, h3⟩, h4⟩, h5⟩ := h
    have pa : [y].all notStar = true := by rw [List.all_cons, h2]; rfl
    refine PE.weak (pe_bm PySem.F.plainAttrs_list PySem.F.slot_list_count PySem.F.type_list_count mt_countB (a.ok c n.left o h4) (pa_cons (b.ok c n.right y h5) pa_nil (starEach_cons h2)) (base_of h1) (few_of pa (by simp)) (by simp [h3]) (starEach_cons h2) rfl) fun σ H Q ⟨ρ, O, s, q⟩ => ?_
    refine tS_bind s q fun d ρ1 v H1 O1 e1 s1 r1 hk => ?_
    cases d with
    | lst ds =>
      obtain ⟨p, xs, rfl, g1, g2, g3⟩ := r1.lstH
      rw [if_pos (by rfl)] at hk
      refine ⟨.inl ⟨rfl, xs, SqL.of g1⟩, tS_bind s1 hk fun e ρ2 w H2 O2 e2 s2 r2 hk2 => ?_⟩
      obtain ⟨z, hz, kk⟩ := post_lift hk2
      cases e with
      | bl y =>
        obtain ⟨bs, hb, rfl⟩ := Option.map_eq_some_iff.mp (show (blsOf ds).map _ = some z from hz)
        have hds := blsOf_eq hb
        subst hds
        cases r2
        obtain ⟨p', xs', ep, f1, f2, f3⟩ := (r1.ext e2).lstH
        cases ep
        have hx := reps_bls_eq f3
        subst hx
        exact ⟨p, bs, y, rfl, rfl, SqL.of f1, kk _ H2 O2 (e1.trans e2) s2 (.int _)⟩
      | _ => cases hz
    | _ =>
      rw [if_neg (by exact Bool.false_ne_true)] at hk
      exact hk.elim
  · cases h) (fun k x h => by unfold countChk at h; split at h <;> first | rfl | cases h)
section
variable {ρ : En} {Q : D → En → Prop} {R : Xn → En → Prop}
theorem w_den_didx {a i : Ex} {z : Lz (Q, R)} : ((Ex.didx a i).den ρ).Pz Q R z = (a.den ρ).Pz (fun x ρ1 => (i.den ρ1).Pz (fun y ρ2 => OPz (lookD x y) (fun d => Q d ρ2) .mk) R .mk) R .mk := by
  cases z
  show Out.Pz (dOp2 lookD a i ρ) Q R .mk = _
  unfold dOp2
  rw [pz_bind]
  refine pz_ext fun x ρ1 => ?_
  rw [pz_bind]
  refine pz_ext fun y ρ2 => ?_
  rw [pz_lift]
theorem w_den_lcount {a i : Ex} {z : Lz (Q, R)} : ((Ex.lcount a i).den ρ).Pz Q R z = (a.den ρ).Pz (fun x ρ1 => isL x = true ∧ (i.den ρ1).Pz (fun y ρ2 => OPz (countD x y) (fun d => Q d ρ2) .mk) R .mk) R .mk := by
  cases z
  show Out.Pz (lcountD a i ρ) Q R .mk = _
  unfold lcountD
  rw [pz_bind]
  refine pz_ext fun x ρ1 => ?_
  rw [pz_ite, pz_no, if_F, pz_bind]
  congr 1
  refine pz_ext fun y ρ2 => ?_
  rw [pz_lift]
theorem e_countD (ds : List D) (b : Bool) : countD (.lst ds) (.bl b) = (blsOf ds).map fun bs => .int ((bs.count b : Nat) : Int) := id rfl
theorem e_lookD (es : List (D × D)) (kd : D) : lookD (.dic es) kd = (keyT kd).bind (lookE es) := id rfl
theorem w_den_dc {s : Sr} {t : Tg} {cs : Cs} {ek ev : Ex} {vs : List Nat} {z : Lz (Q, R)} : ((Ex.dc s t cs ek ev vs).den ρ).Pz Q R z = (dcD s.den vs t.den cs.den ek.den ev.den ρ).Pz Q R .mk := by cases z; exact id rfl
end
theorem pz_dc1 {src : En → Out (List D)} {i : Nat} {cond : En → Out Bool} {ke ve : En → Out D} {ρ ρ1 : En} {ds : List D} {Q : D → En → Prop} {R : Xn → En → Prop} {z : Lz (Q, R)} (g : D → D) (h1 : src ρ = .ok ds ρ1) (hi : slN ρ1 i = true)
    (hc : ∀ d ∈ ds, (cond (ρ1.set i (.v d))).Pz (fun t ρ' => t = true ∧ ρ' = ρ1.set i (.v d)) (fun _ _ => False) .mk) (hk : ∀ d ∈ ds, (ke (ρ1.set i (.v d))).Pz (fun y ρ' => y = d ∧ ρ' = ρ1.set i (.v d)) (fun _ _ => False) .mk)
    (he : ∀ d ∈ ds, (ve (ρ1.set i (.v d))).Pz (fun y ρ' => y = g d ∧ ρ' = ρ1.set i (.v d)) (fun _ _ => False) .mk)
    (hd : ds ≠ []) (hn : ds.Pairwise fun a b => keyT a ≠ keyT b) (hs : ∀ d ∈ ds, (keyT d).isSome = true) (hz : ds.length ≤ 1000000)
    (q : Q (.dic (ds.map fun d => (d, g d))) ρ1) : (dcD src [i] (nameD i) cond ke ve ρ).Pz Q R z := by
  obtain ⟨h2, h3⟩ := slN_iff hi
  show Out.Post _ _ _
  have go : ∀ (todo done : List D) (s : Sl), ds = done ++ todo → ∃ s', dcGo [i] (nameD i) cond ke ve todo (done.map fun d => (d, g d)) (ρ1.set i s) = .ok (ds.map fun d => (d, g d)) (ρ1.set i s') := by
    intro todo
    induction todo with
    | nil =>
      intro done s e
      rw [List.append_nil] at e
      subst e
      exact ⟨s, rfl⟩
    | cons d todo ih =>
      intro done s e
      have hm : d ∈ ds := by rw [e]; simp
      have e1 : nameD i d (wipeE (ρ1.set i s) [i]) = some (ρ1.set i (.v d)) := by rw [wipe1, nameD_wiped (by simpa using h2), set_set]
      obtain ⟨s', ih⟩ := ih (done ++ [d]) (.v d) (by rw [e]; simp)
      refine ⟨s', ?_⟩
      unfold dcGo
      rw [e1]
      have hlt : (done.map fun d => (d, g d)).length < sizeLine := by
        rw [List.length_map]
        have := congrArg List.length e
        rw [List.length_append, List.length_cons] at this
        have := size_is
        omega
      have hput : putOk (done.map fun d => (d, g d)) d = true := by
        unfold putOk
        rw [hs d hm, decide_eq_true hlt, Bool.true_and, Bool.and_true, List.all_map, List.all_eq_true]
        intro x hx
        rw [e, List.pairwise_append] at hn
        exact decide_eq_true (hn.2.2 x hx d List.mem_cons_self)
      simp only [eq_of_post (hc d hm), eq_of_post (hk d hm), eq_of_post (he d hm), bind_ok, if_true, hput]
      rw [List.map_append] at ih
      exact ih
  have hid : ρ1.set i (ρ1[i]?.getD .n) = ρ1 := by
    refine List.ext_getElem? fun j => ?_
    by_cases hj : i = j
    · subst hj
      rw [List.getElem?_set_self h2, List.getElem?_eq_getElem h2]
      rfl
    · rw [List.getElem?_set_ne hj]
  obtain ⟨s', e⟩ := go ds [] (ρ1[i]?.getD .n) rfl
  rw [hid] at e
  have e : dcGo [i] (nameD i) cond ke ve ds [] ρ1 = .ok (ds.map fun d => (d, g d)) (ρ1.set i s') := e
  have hb : backE ρ1 [i] (ρ1.set i s') = ρ1 := by
    show (ρ1.set i s').set i (ρ1[i]?.getD .n) = ρ1
    rw [set_set, hid]
  unfold dcD
  rw [h1, bind_ok, if_pos h3, e]
  show Out.Post (Out.lift (dicOf (ds.map fun d => (d, g d))) (backE ρ1 [i] (ρ1.set i s'))) Q R
  rw [hb]
  cases ds with
  | nil => exact absurd rfl hd
  | cons d ds => exact q
end Ev
set_option Elab.async false
set_option maxRecDepth 100000
set_option maxHeartbeats 4000000
/-! the defs of the row, printed by gen.py -/
namespace K02
open PySem PySem.Spec L2 Ev
abbrev topS (i : Nat) : Stmt := PySem.Challenge.pw_maypost_k02_whole_rules_hold_by_own_reck.main.body.getD i (.Pass ⟨0, 0, 0, 0⟩)
def gl_KINDS : List D := [(.str "yes"), (.str "confirm"), (.str "open"), (.str "bounce"), (.str "no"), (.str "complain")]
def g_KINDS : D := .tup gl_KINDS
def g_MOST_ATOMS : D := (.int 5)
def g_MOST_LAST : D := (.int 4)
def g_MOST_LAST_IN_ALL : D := (.int 8)
def g_MOST_LEVELS : D := (.int 4)
def g_MOST_NODES : D := (.int 10)
def g_MOST_TREES : D := (.int 6)
/-! _law_draw -/
def d__law_draw : Df where
  name := "_law_draw"
  ps := ["well", "limit"]
  N := ["well", "limit", "figure", "mixed"]
  io := [0]
  fresh := false
  body := (.cons (.ifs (.cmp .Gt (.oidx 0 (.int 0)) (.int 0))
    (.cons (.asg (.tup 2 (.cons (.sub 0 (.int 0)) (.cons (.name 2) .nil))) (.bfn fDivmod (.cons (.oidx 0 (.int 0)) (.cons (.var 1) .nil))))
    (.cons (.ret (.var 2))
    .nil))
    .nil)
    (.cons (.asg (.sub 0 (.int 2)) (.bin .Add (.oidx 0 (.int 2)) (.int 1)))
    (.cons (.set 3 (.bin .Mod (.tfn fInt (.cons (.bin .Add (.bin .Mult (.oidx 0 (.int 1)) (.int 40009)) (.bin .Mult (.int 15013) (.oidx 0 (.int 2)))) .nil)) (.int 2147483629)))
    (.cons (.asg (.sub 0 (.int 1)) (.bin .Mod (.tfn fInt (.cons (.bin .Add (.bin .Mult (.var 3) (.bin .Add (.bin .Mod (.tfn fInt (.cons (.var 3) .nil)) (.int 5003)) (.int 20011))) (.oidx 0 (.int 2))) .nil)) (.int 2147483629)))
    (.cons (.ret (.bin .Mod (.tfn fInt (.cons (.bin .FloorDiv (.oidx 0 (.int 1)) (.int 1031)) .nil)) (.var 1)))
    .nil)))))
  nm := none
theorem k__law_draw : d__law_draw.all (topS 40) = true := by decide +kernel

/-! _law_kinds -/
def d__law_kinds : Df where
  name := "_law_kinds"
  ps := []
  N := []
  io := []
  fresh := false
  body := (.cons (.ret (.tup (.cons (.str "yes") (.cons (.str "confirm") (.cons (.str "open") (.cons (.str "bounce") (.cons (.str "no") (.cons (.str "complain") .nil))))))))
    .nil)
  nm := none
theorem k__law_kinds : d__law_kinds.all (topS 44) = true := by decide +kernel

/-! _law_of -/
def d__law_of : Df where
  name := "_law_of"
  ps := ["well", "some"]
  N := ["well", "some"]
  io := [0]
  fresh := false
  body := (.cons (.ret (.idx (.var 1) (.call "_law_draw" d__law_draw.sem (.own_ 0 (.cons (.bfn fLen (.cons (.var 1) .nil)) .nil)))))
    .nil)
  nm := none
theorem k__law_of : d__law_of.all (topS 41) = true := by decide +kernel

/-! _law_unlike -/
def d__law_unlike : Df where
  name := "_law_unlike"
  ps := ["well", "some", "many"]
  N := ["well", "some", "many", "left", "turn"]
  io := [0]
  fresh := false
  body := (.cons (.own 3 (.list (.var 1)))
    (.cons (.for_ (.name 4) (.range1 (.cons (.bin .Sub (.bfn fLen (.cons (.var 1) .nil)) (.var 2)) .nil))
    (.cons (.expr (.pop 3 (.call "_law_draw" d__law_draw.sem (.own_ 0 (.cons (.olen 3) .nil)))))
    .nil))
    (.cons (.retO 3)
    .nil)))
  nm := none
theorem k__law_unlike : d__law_unlike.all (topS 42) = true := by decide +kernel

/-! _law_history -/
def d__law_history : Df where
  name := "_law_history"
  ps := ["well", "most"]
  N := ["well", "most", "found", "able", "day"]
  io := [0]
  fresh := false
  body := (.cons (.parM [2, 3] (.f (.lst .nil) (.v (.call "_law_unlike" d__law_unlike.sem (.own_ 0 (.cons (.call0 "_law_kinds" d__law_kinds.sem) (.cons (.call "_law_of" d__law_of.sem (.own_ 0 (.cons (.tup (.cons (.int 1) (.cons (.int 2) (.cons (.int 3) (.cons (.int 6) .nil))))) .nil))) .nil)))) .nil)))
    (.cons (.for_ (.name 4) (.range1 (.cons (.call "_law_draw" d__law_draw.sem (.own_ 0 (.cons (.bin .Add (.var 1) (.int 1)) .nil))) .nil))
    (.cons (.app 2 (.tfn fTuple (.cons (.call "_law_unlike" d__law_unlike.sem (.own_ 0 (.cons (.var 3) (.cons (.call "_law_draw" d__law_draw.sem (.own_ 0 (.cons (.call "_law_of" d__law_of.sem (.own_ 0 (.cons (.tup (.cons (.int 1) (.cons (.int 2) (.cons (.bin .Add (.bfn fLen (.cons (.var 3) .nil)) (.int 1)) .nil)))) .nil))) .nil))) .nil)))) .nil)))
    .nil))
    (.cons (.frz 2 (.ret (.tfn fTuple (.cons (.var 2) .nil))))
    .nil)))
  nm := none
theorem k__law_history : d__law_history.all (topS 46) = true := by decide +kernel

/-! _law_atom_holds -/
def d__law_atom_holds : Df where
  name := "_law_atom_holds"
  ps := ["atom", "history"]
  N := ["atom", "history", "days", "kind", "day", "is_so"]
  io := []
  fresh := false
  body := (.cons (.own 2 (.lc (.val (.var 1)) (.name 4) .nil (.cmp .NotEq (.new (.lc (.val (.var 4)) (.name 3) (.one (.cmp .In (.var 3) (.idx (.var 0) (.int 1)))) (.int 1) [3])) (.lst .nil)) [4]))
    (.cons (.ifs (.cmp .Eq (.idx (.var 0) (.int 0)) (.str "ever"))
    (.cons (.ret (.oin false (.bl true) 2))
    .nil)
    .nil)
    (.cons (.ifs (.cmp .Eq (.idx (.var 0) (.int 0)) (.str "within"))
    (.cons (.frz 2 (.ret (.cmp .In (.bl true) (.sli (.var 2) (.some (.bfn fMax (.cons (.int 0) (.cons (.bin .Sub (.bfn fLen (.cons (.var 2) .nil)) (.idx (.var 0) (.int 2))) .nil)))) .none))))
    .nil)
    .nil)
    (.cons (.ifs (.cmp .Eq (.idx (.var 0) (.int 0)) (.str "times"))
    (.cons (.frz 2 (.ret (.cmp .GtE (.lcount (.sli (.var 2) (.some (.bfn fMax (.cons (.int 0) (.cons (.bin .Sub (.bfn fLen (.cons (.var 2) .nil)) (.idx (.var 0) (.int 3))) .nil)))) .none) (.bl true)) (.idx (.var 0) (.int 2)))))
    .nil)
    .nil)
    (.cons (.set 5 (.bl false))
    (.cons (.for_ (.name 4) (.val (.var 1))
    (.cons (.for_ (.name 3) (.val (.var 4))
    (.cons (.set 5 (.or (.cons (.cmp .In (.var 3) (.idx (.var 0) (.int 1))) (.one (.and (.cons (.var 5) (.one (.cmp .NotIn (.var 3) (.idx (.var 0) (.int 2))))))))))
    .nil))
    .nil))
    (.cons (.ret (.var 5))
    .nil)))))))
  nm := none
theorem k__law_atom_holds : d__law_atom_holds.all (topS 52) = true := by decide +kernel

/-! _law_holds -/
def m__law_holds (r : List D → FO) : Df where
  name := "_law_holds"
  ps := ["rule", "history"]
  N := ["rule", "history", "inner", "each"]
  io := []
  fresh := false
  body := (.cons (.ifs (.cmp .Eq (.idx (.var 0) (.int 0)) (.str "not"))
    (.cons (.ret (.not (.call "_law_holds" ⟨r, [], false, 2⟩ (.cons (.idx (.var 0) (.int 1)) (.cons (.var 1) .nil)))))
    .nil)
    .nil)
    (.cons (.ifs (.cmp .In (.idx (.var 0) (.int 0)) (.tup (.cons (.str "all") (.cons (.str "any") .nil))))
    (.cons (.own 2 (.lc (.val (.idx (.var 0) (.int 1))) (.name 3) .nil (.call "_law_holds" ⟨r, [], false, 2⟩ (.cons (.var 3) (.cons (.var 1) .nil))) [3]))
    (.cons (.frz 2 (.ret (.ife (.cmp .Eq (.idx (.var 0) (.int 0)) (.str "all")) (.bfn fAll (.cons (.var 2) .nil)) (.bfn fAny (.cons (.var 2) .nil)))))
    .nil))
    .nil)
    (.cons (.ret (.call "_law_atom_holds" d__law_atom_holds.sem (.cons (.var 0) (.cons (.var 1) .nil))))
    .nil)))
  nm := none
theorem k__law_holds (r : List D → FO) : (m__law_holds r).all (topS 53) = true := by kernel_rfl
def f__law_holds : FSem := ⟨recDen m__law_holds 16, [], false, 2⟩

/-! _law_is -/
def d__law_is : Df where
  name := "_law_is"
  ps := ["told", "due"]
  N := ["told", "due"]
  io := []
  fresh := false
  body := (.cons (.ret (.repr false (.var 0) (.var 1)))
    .nil)
  nm := none
theorem k__law_is : d__law_is.all (topS 43) = true := by decide +kernel

/-! _law_some -/
def d__law_some : Df where
  name := "_law_some"
  ps := ["well", "most"]
  N := ["well", "most"]
  io := [0]
  fresh := false
  body := (.cons (.ret (.tfn fTuple (.cons (.call "_law_unlike" d__law_unlike.sem (.own_ 0 (.cons (.call0 "_law_kinds" d__law_kinds.sem) (.cons (.bin .Add (.int 1) (.call "_law_draw" d__law_draw.sem (.own_ 0 (.cons (.var 1) .nil)))) .nil)))) .nil)))
    .nil)
  nm := none
theorem k__law_some : d__law_some.all (topS 45) = true := by decide +kernel

/-! _law_atom -/
def d__law_atom : Df where
  name := "_law_atom"
  ps := ["well", "left"]
  N := ["well", "left", "way", "one", "rest", "kind", "span"]
  io := [0]
  fresh := false
  body := (.cons (.set 2 (.call "_law_draw" d__law_draw.sem (.own_ 0 (.cons (.int 4) .nil))))
    (.cons (.ifs (.cmp .Eq (.var 2) (.int 0))
    (.cons (.ret (.tup (.cons (.str "ever") (.cons (.call "_law_some" d__law_some.sem (.own_ 0 (.cons (.call "_law_of" d__law_of.sem (.own_ 0 (.cons (.tup (.cons (.int 1) (.cons (.int 2) (.cons (.int 6) .nil)))) .nil))) .nil))) .nil))))
    .nil)
    .nil)
    (.cons (.ifs (.or (.cons (.cmp .Eq (.var 2) (.int 1)) (.one (.cmp .Lt (.var 1) (.int 1)))))
    (.cons (.set 3 (.call "_law_some" d__law_some.sem (.own_ 0 (.cons (.call "_law_of" d__law_of.sem (.own_ 0 (.cons (.tup (.cons (.int 1) (.cons (.int 2) (.cons (.int 4) .nil)))) .nil))) .nil))))
    (.cons (.own 4 (.lc (.val (.call0 "_law_kinds" d__law_kinds.sem)) (.name 5) (.one (.cmp .NotIn (.var 5) (.var 3))) (.var 5) [5]))
    (.cons (.frz 4 (.ifs (.cmp .NotEq (.var 4) (.lst .nil))
    (.cons (.ret (.tup (.cons (.str "after") (.cons (.var 3) (.cons (.tfn fTuple (.cons (.call "_law_unlike" d__law_unlike.sem (.own_ 0 (.cons (.var 4) (.cons (.bin .Add (.int 1) (.call "_law_draw" d__law_draw.sem (.own_ 0 (.cons (.bfn fLen (.cons (.var 4) .nil)) .nil)))) .nil)))) .nil)) .nil)))))
    .nil)
    .nil))
    (.cons (.ret (.tup (.cons (.str "ever") (.cons (.var 3) .nil))))
    .nil))))
    .nil)
    (.cons (.ifs (.or (.cons (.cmp .Eq (.var 2) (.int 2)) (.one (.cmp .Lt (.var 1) (.int 2)))))
    (.cons (.ret (.tup (.cons (.str "within") (.cons (.call "_law_some" d__law_some.sem (.own_ 0 (.cons (.call "_law_of" d__law_of.sem (.own_ 0 (.cons (.tup (.cons (.int 1) (.cons (.int 2) (.cons (.int 6) .nil)))) .nil))) .nil))) (.cons (.bin .Add (.int 1) (.call "_law_draw" d__law_draw.sem (.own_ 0 (.cons (.bfn fMin (.cons (.int 4) (.cons (.var 1) .nil))) .nil)))) .nil)))))
    .nil)
    .nil)
    (.cons (.set 6 (.bin .Add (.int 2) (.call "_law_draw" d__law_draw.sem (.own_ 0 (.cons (.bfn fMin (.cons (.int 3) (.cons (.bin .Sub (.var 1) (.int 1)) .nil))) .nil)))))
    (.cons (.ret (.tup (.cons (.str "times") (.cons (.call "_law_some" d__law_some.sem (.own_ 0 (.cons (.call "_law_of" d__law_of.sem (.own_ 0 (.cons (.tup (.cons (.int 1) (.cons (.int 2) (.cons (.int 6) .nil)))) .nil))) .nil))) (.cons (.bin .Add (.int 2) (.call "_law_draw" d__law_draw.sem (.own_ 0 (.cons (.bfn fMin (.cons (.int 2) (.cons (.bin .Sub (.var 6) (.int 1)) .nil))) .nil)))) (.cons (.var 6) .nil))))))
    .nil))))))
  nm := none
theorem k__law_atom : d__law_atom.all (topS 47) = true := by decide +kernel

/-! _law_atoms -/
def d__law_atoms : Df where
  name := "_law_atoms"
  ps := ["well"]
  N := ["well", "found", "left", "turn"]
  io := [0]
  fresh := false
  body := (.cons (.parM [1, 2] (.f (.lst .nil) (.v (.int 8) .nil)))
    (.cons (.for_ (.name 3) (.range1 (.cons (.call "_law_of" d__law_of.sem (.own_ 0 (.cons (.tup (.cons (.int 1) (.cons (.int 2) (.cons (.int 2) (.cons (.int 3) (.cons (.int 3) (.cons (.int 4) (.cons (.int 5) .nil)))))))) .nil))) .nil))
    (.cons (.app 1 (.call "_law_atom" d__law_atom.sem (.own_ 0 (.cons (.var 2) .nil))))
    (.cons (.set 2 (.bin .Sub (.var 2) (.ife (.cmp .In (.idx (.oidx 1 (.neg (.int 1))) (.int 0)) (.tup (.cons (.str "within") (.cons (.str "times") .nil)))) (.idx (.oidx 1 (.neg (.int 1))) (.neg (.int 1))) (.int 0))))
    .nil)))
    (.cons (.retO 1)
    .nil)))
  nm := none
theorem k__law_atoms : d__law_atoms.all (topS 48) = true := by decide +kernel

/-! _law_nodes -/
def m__law_nodes (r : List D → FO) : Df where
  name := "_law_nodes"
  ps := ["tree"]
  N := ["tree", "each"]
  io := []
  fresh := false
  body := (.cons (.ifs (.cmp .Eq (.idx (.var 0) (.int 0)) (.str "not"))
    (.cons (.ret (.bin .Add (.int 1) (.call "_law_nodes" ⟨r, [], false, 1⟩ (.cons (.idx (.var 0) (.int 1)) .nil))))
    .nil)
    .nil)
    (.cons (.ret (.bin .Add (.int 1) (.ife (.cmp .In (.idx (.var 0) (.int 0)) (.tup (.cons (.str "all") (.cons (.str "any") .nil)))) (.bfn fSum (.cons (.new (.lc (.val (.idx (.var 0) (.int 1))) (.name 1) .nil (.call "_law_nodes" ⟨r, [], false, 1⟩ (.cons (.var 1) .nil)) [1])) .nil)) (.int 0))))
    .nil))
  nm := none
theorem k__law_nodes (r : List D → FO) : (m__law_nodes r).all (topS 49) = true := by kernel_rfl
def f__law_nodes : FSem := ⟨recDen m__law_nodes 16, [], false, 1⟩

/-! _law_tree -/
def m__law_tree (r : List D → FO) : Df where
  name := "_law_tree"
  ps := ["well", "bits", "most", "levels"]
  N := ["well", "bits", "most", "levels", "found", "left", "turn"]
  io := [0]
  fresh := false
  body := (.cons (.ifs (.or (.cons (.cmp .Lt (.var 2) (.int 2)) (.cons (.cmp .Lt (.var 3) (.int 2)) (.one (.cmp .Eq (.call "_law_draw" d__law_draw.sem (.own_ 0 (.cons (.int 6) .nil))) (.int 0))))))
    (.cons (.ret (.call "_law_of" d__law_of.sem (.own_ 0 (.cons (.var 1) .nil))))
    .nil)
    .nil)
    (.cons (.ifs (.cmp .Eq (.call "_law_draw" d__law_draw.sem (.own_ 0 (.cons (.int 3) .nil))) (.int 0))
    (.cons (.ret (.tup (.cons (.str "not") (.cons (.call "_law_tree" ⟨r, [0], false, 4⟩ (.own_ 0 (.cons (.var 1) (.cons (.bin .Sub (.var 2) (.int 1)) (.cons (.bin .Sub (.var 3) (.int 1)) .nil))))) .nil))))
    .nil)
    .nil)
    (.cons (.parM [4, 5] (.f (.lst .nil) (.v (.bin .Sub (.var 2) (.int 1)) .nil)))
    (.cons (.for_ (.name 6) (.range1 (.cons (.bin .Add (.int 1) (.call "_law_draw" d__law_draw.sem (.own_ 0 (.cons (.int 6) .nil)))) .nil))
    (.cons (.ifs (.cmp .Gt (.var 5) (.int 0))
    (.cons (.app 4 (.call "_law_tree" ⟨r, [0], false, 4⟩ (.own_ 0 (.cons (.var 1) (.cons (.bfn fMin (.cons (.var 5) (.cons (.bin .Add (.int 1) (.call "_law_draw" d__law_draw.sem (.own_ 0 (.cons (.var 5) .nil)))) .nil))) (.cons (.bin .Sub (.var 3) (.int 1)) .nil))))))
    (.cons (.set 5 (.bin .Sub (.var 5) (.call "_law_nodes" f__law_nodes (.cons (.oidx 4 (.neg (.int 1))) .nil))))
    .nil))
    .nil)
    .nil))
    (.cons (.frz 4 (.ret (.tup (.cons (.call "_law_of" d__law_of.sem (.own_ 0 (.cons (.tup (.cons (.str "all") (.cons (.str "any") .nil))) .nil))) (.cons (.tfn fTuple (.cons (.var 4) .nil)) .nil)))))
    .nil)))))
  nm := none
theorem k__law_tree (r : List D → FO) : (m__law_tree r).all (topS 50) = true := by kernel_rfl
def f__law_tree : FSem := ⟨recDen m__law_tree 16, [0], false, 4⟩

/-! _law_rule -/
def d__law_rule : Df where
  name := "_law_rule"
  ps := ["well"]
  N := ["well"]
  io := [0]
  fresh := false
  body := (.cons (.ret (.call "_law_tree" f__law_tree (.own_ 0 (.cons (.call "_law_atoms" d__law_atoms.sem (.own_ 0 .nil)) (.cons (.call "_law_of" d__law_of.sem (.own_ 0 (.cons (.tup (.cons (.int 1) (.cons (.int 3) (.cons (.int 6) (.cons (.int 10) (.cons (.int 10) .nil)))))) .nil))) (.cons (.int 4) .nil))))))
    .nil)
  nm := none
theorem k__law_rule : d__law_rule.all (topS 51) = true := by decide +kernel

/-! is_ascending -/
def d_is_ascending : Df where
  name := "is_ascending"
  ps := ["values"]
  N := ["values", "one", "two"]
  io := []
  fresh := false
  body := (.cons (.ret (.bfn fAll (.cons (.new (.lc (.zip (.cons (.var 0) (.cons (.sli (.var 0) (.some (.int 1)) .none) .nil))) (.tup 2 (.cons (.name 1) (.cons (.name 2) .nil))) .nil (.cmp .Lt (.var 1) (.var 2)) [1, 2])) .nil)))
    .nil)
  nm := none
theorem k_is_ascending : d_is_ascending.all (topS 17) = true := by decide +kernel

/-! is_one_of -/
def d_is_one_of : Df where
  name := "is_one_of"
  ps := ["value", "words"]
  N := ["value", "words"]
  io := []
  fresh := false
  body := (.cons (.ret (.and (.cons (.isi (.var 0) tyStr) (.one (.cmp .In (.var 0) (.var 1))))))
    .nil)
  nm := none
theorem k_is_one_of : d_is_one_of.all (topS 19) = true := by decide +kernel

/-! is_day -/
def d_is_day : Df where
  name := "is_day"
  ps := ["value"]
  N := ["value", "kind"]
  io := []
  fresh := false
  body := (.cons (.ifs (.or (.cons (.not (.isi (.var 0) tyTuple)) (.one (.not (.bfn fAll (.cons (.new (.lc (.val (.var 0)) (.name 1) .nil (.call "is_one_of" d_is_one_of.sem (.cons (.var 1) (.cons (.glo "KINDS" g_KINDS) .nil))) [1])) .nil))))))
    (.cons (.ret (.bl false))
    .nil)
    .nil)
    (.cons (.ret (.call "is_ascending" d_is_ascending.sem (.cons (.new (.lc (.val (.var 0)) (.name 1) .nil (.gindex "KINDS" gl_KINDS (.var 1)) [1])) .nil)))
    .nil))
  nm := none
theorem k_is_day : d_is_day.all (topS 28) = true := by decide +kernel

def c_0 : Cf where
  ps := ["day", "before"]
  N := ["day", "before"]
  body := (.call "is_day" d_is_day.sem (.cons (.var 0) .nil))

/-! wrong_at -/
def d_wrong_at : Df where
  name := "wrong_at"
  ps := ["values", "most", "is_right"]
  N := ["values", "most", "is_right", "at", "value"]
  io := []
  fresh := false
  body := (.cons (.ifs (.not (.isi (.var 0) tyTuple))
    (.cons (.ret (.lst (.cons .non .nil)))
    .nil)
    .nil)
    (.cons (.for_ (.tup 2 (.cons (.name 3) (.cons (.name 4) .nil))) (.enum (.cons (.var 0) .nil))
    (.cons (.ifs (.or (.cons (.cmp .Eq (.var 3) (.var 1)) (.one (.not (.callv [(0, c_0.sem)] 2 (.cons (.var 4) (.cons (.sli (.var 0) .none (.some (.var 3))) .nil)))))))
    (.cons (.ret (.lst (.cons (.var 3) .nil)))
    .nil)
    .nil)
    .nil))
    (.cons (.ret (.lst .nil))
    .nil)))
  nm := none
theorem k_wrong_at : d_wrong_at.all (topS 18) = true := by decide +kernel

/-! wrong_day -/
def d_wrong_day : Df where
  name := "wrong_day"
  ps := ["value"]
  N := ["value"]
  io := []
  fresh := false
  body := (.cons (.ret (.call "wrong_at" d_wrong_at.sem (.cons (.var 0) (.cons .non (.cons (.lam 0 c_0) .nil)))))
    .nil)
  nm := some fun _ _ => "wrong_day.<locals>.<lambda>"
theorem k_wrong_day : d_wrong_day.all (topS 30) = true := by decide +kernel

/-! check_history -/
def d_check_history : Df where
  name := "check_history"
  ps := ["value"]
  N := ["value", "at"]
  io := []
  fresh := false
  body := (.cons (.for_ (.name 1) (.val (.call "wrong_day" d_wrong_day.sem (.cons (.var 0) .nil)))
    (.cons .stuck
    .nil))
    .nil)
  nm := none
theorem k_check_history : d_check_history.all (topS 36) = true := by decide +kernel

/-! trees_in -/
def d_trees_in : Df where
  name := "trees_in"
  ps := ["rule"]
  N := ["rule"]
  io := []
  fresh := false
  body := (.cons (.ifs (.cmp .Eq (.idx (.var 0) (.int 0)) (.str "not"))
    (.cons (.ret (.lst (.cons (.idx (.var 0) (.int 1)) .nil)))
    .nil)
    .nil)
    (.cons (.ret (.ife (.cmp .In (.idx (.var 0) (.int 0)) (.tup (.cons (.str "all") (.cons (.str "any") .nil)))) (.tfn fList (.cons (.idx (.var 0) (.int 1)) .nil)) (.lst .nil)))
    .nil))
  nm := none
theorem k_trees_in : d_trees_in.all (topS 5) = true := by decide +kernel

/-! all_atoms -/
def m_all_atoms (r : List D → FO) : Df where
  name := "all_atoms"
  ps := ["rule"]
  N := ["rule", "tree", "atom"]
  io := []
  fresh := false
  body := (.cons (.ifs (.cmp .NotIn (.idx (.var 0) (.int 0)) (.tup (.cons (.str "not") (.cons (.str "all") (.cons (.str "any") .nil)))))
    (.cons (.ret (.lst (.cons (.var 0) .nil)))
    .nil)
    .nil)
    (.cons (.ret (.new (.lc2 (.val (.call "trees_in" d_trees_in.sem (.cons (.var 0) .nil))) (.name 1) .nil (.val (.call "all_atoms" ⟨r, [], false, 1⟩ (.cons (.var 1) .nil))) (.name 2) .nil (.var 2) [1, 2] [2])))
    .nil))
  nm := none
theorem k_all_atoms (r : List D → FO) : (m_all_atoms r).all (topS 6) = true := by kernel_rfl
def f_all_atoms : FSem := ⟨recDen m_all_atoms 16, [], false, 1⟩

/-! atoms_of -/
def d_atoms_of : Df where
  name := "atoms_of"
  ps := ["rule"]
  N := ["rule", "found", "atom"]
  io := []
  fresh := false
  body := (.cons (.own 1 (.lst .nil))
    (.cons (.for_ (.name 2) (.val (.call "all_atoms" f_all_atoms (.cons (.var 0) .nil)))
    (.cons (.ifs (.oin true (.var 2) 1)
    (.cons (.app 1 (.var 2))
    .nil)
    .nil)
    .nil))
    (.cons (.retO 1)
    .nil)))
  nm := none
theorem k_atoms_of : d_atoms_of.all (topS 7) = true := by decide +kernel

/-! last_of -/
def d_last_of : Df where
  name := "last_of"
  ps := ["atom"]
  N := ["atom"]
  io := []
  fresh := false
  body := (.cons (.ret (.ife (.cmp .In (.idx (.var 0) (.int 0)) (.tup (.cons (.str "within") (.cons (.str "times") .nil)))) (.idx (.var 0) (.neg (.int 1))) (.int 0)))
    .nil)
  nm := none
theorem k_last_of : d_last_of.all (topS 33) = true := by decide +kernel

/-! are_kinds -/
def d_are_kinds : Df where
  name := "are_kinds"
  ps := ["value"]
  N := ["value"]
  io := []
  fresh := false
  body := (.cons (.ret (.and (.cons (.call "is_day" d_is_day.sem (.cons (.var 0) .nil)) (.one (.cmp .NotEq (.var 0) (.tup .nil))))))
    .nil)
  nm := none
theorem k_are_kinds : d_are_kinds.all (topS 29) = true := by decide +kernel

/-! is_whole -/
def d_is_whole : Df where
  name := "is_whole"
  ps := ["value"]
  N := ["value"]
  io := []
  fresh := false
  body := (.cons (.ret (.and (.cons (.isi (.var 0) tyInt) (.one (.not (.isi (.var 0) tyBool))))))
    .nil)
  nm := none
theorem k_is_whole : d_is_whole.all (topS 14) = true := by decide +kernel

/-! is_number -/
def d_is_number : Df where
  name := "is_number"
  ps := ["value", "low", "high"]
  N := ["value", "low", "high"]
  io := []
  fresh := false
  body := (.cons (.ifs (.or (.cons (.not (.call "is_whole" d_is_whole.sem (.cons (.var 0) .nil))) (.one (.and (.cons (.cmp .IsNot (.var 1) .non) (.one (.cmp .Lt (.var 0) (.var 1))))))))
    (.cons (.ret (.bl false))
    .nil)
    .nil)
    (.cons (.ret (.or (.cons (.cmp .Is (.var 2) .non) (.one (.cmp .LtE (.var 0) (.var 2))))))
    .nil))
  nm := none
theorem k_is_number : d_is_number.all (topS 15) = true := by decide +kernel

/-! is_atom -/
def d_is_atom : Df where
  name := "is_atom"
  ps := ["value"]
  N := ["value", "kind"]
  io := []
  fresh := false
  body := (.cons (.ifs (.or (.cons (.not (.isi (.var 0) tyTuple)) (.cons (.cmp .NotIn (.bfn fLen (.cons (.var 0) .nil)) (.tup (.cons (.int 2) (.cons (.int 3) (.cons (.int 4) .nil))))) (.one (.not (.isi (.idx (.var 0) (.int 0)) tyStr))))))
    (.cons (.ret (.bl false))
    .nil)
    .nil)
    (.cons (.ifs (.not (.call "are_kinds" d_are_kinds.sem (.cons (.idx (.var 0) (.int 1)) .nil)))
    (.cons (.ret (.bl false))
    .nil)
    .nil)
    (.cons (.ifs (.cmp .Eq (.idx (.var 0) (.int 0)) (.str "ever"))
    (.cons (.ret (.cmp .Eq (.bfn fLen (.cons (.var 0) .nil)) (.int 2)))
    .nil)
    .nil)
    (.cons (.ifs (.and (.cons (.cmp .Eq (.idx (.var 0) (.int 0)) (.str "after")) (.one (.cmp .Eq (.bfn fLen (.cons (.var 0) .nil)) (.int 3)))))
    (.cons (.ret (.and (.cons (.call "are_kinds" d_are_kinds.sem (.cons (.idx (.var 0) (.int 2)) .nil)) (.one (.not (.bfn fAny (.cons (.new (.lc (.val (.idx (.var 0) (.int 2))) (.name 1) .nil (.cmp .In (.var 1) (.idx (.var 0) (.int 1))) [1])) .nil)))))))
    .nil)
    .nil)
    (.cons (.ifs (.and (.cons (.cmp .Eq (.idx (.var 0) (.int 0)) (.str "within")) (.one (.cmp .Eq (.bfn fLen (.cons (.var 0) .nil)) (.int 3)))))
    (.cons (.ret (.call "is_number" d_is_number.sem (.cons (.idx (.var 0) (.int 2)) (.cons (.int 1) (.cons (.glo "MOST_LAST" g_MOST_LAST) .nil)))))
    .nil)
    .nil)
    (.cons (.ifs (.or (.cons (.cmp .NotEq (.idx (.var 0) (.int 0)) (.str "times")) (.one (.cmp .NotEq (.bfn fLen (.cons (.var 0) .nil)) (.int 4)))))
    (.cons (.ret (.bl false))
    .nil)
    .nil)
    (.cons (.ret (.and (.cons (.call "is_number" d_is_number.sem (.cons (.idx (.var 0) (.int 2)) (.cons (.int 2) (.cons (.int 3) .nil)))) (.one (.call "is_number" d_is_number.sem (.cons (.idx (.var 0) (.int 3)) (.cons (.idx (.var 0) (.int 2)) (.cons (.glo "MOST_LAST" g_MOST_LAST) .nil))))))))
    .nil)))))))
  nm := none
theorem k_is_atom : d_is_atom.all (topS 31) = true := by decide +kernel

/-! is_tuple_of -/
def d_is_tuple_of : Df where
  name := "is_tuple_of"
  ps := ["value", "many"]
  N := ["value", "many"]
  io := []
  fresh := false
  body := (.cons (.ret (.and (.cons (.isi (.var 0) tyTuple) (.one (.cmp .Eq (.bfn fLen (.cons (.var 0) .nil)) (.var 1))))))
    .nil)
  nm := none
theorem k_is_tuple_of : d_is_tuple_of.all (topS 16) = true := by decide +kernel

/-! nodes_in -/
def m_nodes_in (r : List D → FO) : Df where
  name := "nodes_in"
  ps := ["value", "levels"]
  N := ["value", "levels", "trees", "tree"]
  io := []
  fresh := false
  body := (.cons (.ifs (.or (.cons (.not (.call "is_tuple_of" d_is_tuple_of.sem (.cons (.var 0) (.cons (.int 2) .nil)))) (.one (.not (.call "is_one_of" d_is_one_of.sem (.cons (.idx (.var 0) (.int 0)) (.cons (.tup (.cons (.str "all") (.cons (.str "any") (.cons (.str "not") .nil)))) .nil)))))))
    (.cons (.ret (.ife (.call "is_atom" d_is_atom.sem (.cons (.var 0) .nil)) (.int 1) (.bin .Add (.glo "MOST_NODES" g_MOST_NODES) (.int 1))))
    .nil)
    .nil)
    (.cons (.set 2 (.ife (.cmp .Eq (.idx (.var 0) (.int 0)) (.str "not")) (.tup (.cons (.idx (.var 0) (.int 1)) .nil)) (.idx (.var 0) (.int 1))))
    (.cons (.ifs (.or (.cons (.cmp .Eq (.var 1) (.int 1)) (.cons (.not (.isi (.var 2) tyTuple)) (.one (.not (.chn .LtE .LtE (.int 1) (.bfn fLen (.cons (.var 2) .nil)) (.glo "MOST_TREES" g_MOST_TREES)))))))
    (.cons (.ret (.bin .Add (.glo "MOST_NODES" g_MOST_NODES) (.int 1)))
    .nil)
    .nil)
    (.cons (.ret (.bin .Add (.int 1) (.bfn fSum (.cons (.new (.lc (.val (.var 2)) (.name 3) .nil (.call "nodes_in" ⟨r, [], false, 2⟩ (.cons (.var 3) (.cons (.bin .Sub (.var 1) (.int 1)) .nil))) [3])) .nil))))
    .nil))))
  nm := none
theorem k_nodes_in (r : List D → FO) : (m_nodes_in r).all (topS 32) = true := by kernel_rfl
def f_nodes_in : FSem := ⟨recDen m_nodes_in 16, [], false, 2⟩

/-! is_rule -/
def d_is_rule : Df where
  name := "is_rule"
  ps := ["value"]
  N := ["value", "found", "atom"]
  io := []
  fresh := false
  body := (.cons (.ifs (.cmp .Gt (.call "nodes_in" f_nodes_in (.cons (.var 0) (.cons (.glo "MOST_LEVELS" g_MOST_LEVELS) .nil))) (.glo "MOST_NODES" g_MOST_NODES))
    (.cons (.ret (.bl false))
    .nil)
    .nil)
    (.cons (.set 1 (.call "atoms_of" d_atoms_of.sem (.cons (.var 0) .nil)))
    (.cons (.ret (.and (.cons (.cmp .LtE (.bfn fLen (.cons (.var 1) .nil)) (.glo "MOST_ATOMS" g_MOST_ATOMS)) (.one (.cmp .LtE (.bfn fSum (.cons (.new (.lc (.val (.var 1)) (.name 2) .nil (.call "last_of" d_last_of.sem (.cons (.var 2) .nil)) [2])) .nil)) (.glo "MOST_LAST_IN_ALL" g_MOST_LAST_IN_ALL))))))
    .nil)))
  nm := none
theorem k_is_rule : d_is_rule.all (topS 34) = true := by decide +kernel

/-! check_rule -/
def d_check_rule : Df where
  name := "check_rule"
  ps := ["value"]
  N := ["value"]
  io := []
  fresh := false
  body := (.cons (.ifs (.not (.call "is_rule" d_is_rule.sem (.cons (.var 0) .nil)))
    (.cons .stuck
    .nil)
    .nil)
    .nil)
  nm := none
theorem k_check_rule : d_check_rule.all (topS 35) = true := by decide +kernel

/-! has_some -/
def d_has_some : Df where
  name := "has_some"
  ps := ["day", "kinds"]
  N := ["day", "kinds", "kind"]
  io := []
  fresh := false
  body := (.cons (.ret (.bfn fAny (.cons (.new (.lc (.val (.var 0)) (.name 2) .nil (.cmp .In (.var 2) (.var 1)) [2])) .nil)))
    .nil)
  nm := none
theorem k_has_some : d_has_some.all (topS 9) = true := by decide +kernel

/-! is_last -/
def d_is_last : Df where
  name := "is_last"
  ps := ["history", "kinds", "others"]
  N := ["history", "kinds", "others", "found", "day", "kind"]
  io := []
  fresh := false
  body := (.cons (.set 3 (.bl false))
    (.cons (.for_ (.name 4) (.val (.var 0))
    (.cons (.for_ (.name 5) (.val (.var 4))
    (.cons (.ifs (.cmp .In (.var 5) (.var 1))
    (.cons (.set 3 (.bl true))
    .nil)
    (.cons (.ifs (.cmp .In (.var 5) (.var 2))
    (.cons (.set 3 (.bl false))
    .nil)
    .nil)
    .nil))
    .nil))
    .nil))
    (.cons (.ret (.var 3))
    .nil)))
  nm := none
theorem k_is_last : d_is_last.all (topS 10) = true := by decide +kernel

/-! atom_holds -/
def d_atom_holds : Df where
  name := "atom_holds"
  ps := ["atom", "history"]
  N := ["atom", "history", "day", "least", "many"]
  io := []
  fresh := false
  body := (.cons (.ifs (.cmp .Eq (.idx (.var 0) (.int 0)) (.str "ever"))
    (.cons (.ret (.bfn fAny (.cons (.new (.lc (.val (.var 1)) (.name 2) .nil (.call "has_some" d_has_some.sem (.cons (.var 2) (.cons (.idx (.var 0) (.int 1)) .nil))) [2])) .nil)))
    .nil)
    .nil)
    (.cons (.ifs (.cmp .Eq (.idx (.var 0) (.int 0)) (.str "after"))
    (.cons (.ret (.call "is_last" d_is_last.sem (.cons (.var 1) (.cons (.idx (.var 0) (.int 1)) (.cons (.idx (.var 0) (.int 2)) .nil)))))
    .nil)
    .nil)
    (.cons (.asg (.tup 2 (.cons (.name 3) (.cons (.name 4) .nil))) (.ife (.cmp .Eq (.idx (.var 0) (.int 0)) (.str "within")) (.tup (.cons (.int 1) (.cons (.idx (.var 0) (.int 2)) .nil))) (.sli (.var 0) (.some (.int 2)) .none)))
    (.cons (.ret (.cmp .GtE (.bfn fLen (.cons (.new (.lc (.val (.sli (.var 1) (.some (.neg (.var 4))) .none)) (.name 2) (.one (.call "has_some" d_has_some.sem (.cons (.var 2) (.cons (.idx (.var 0) (.int 1)) .nil)))) (.var 2) [2])) .nil)) (.var 3)))
    .nil))))
  nm := none
theorem k_atom_holds : d_atom_holds.all (topS 11) = true := by decide +kernel

/-! holds_by -/
def m_holds_by (r : List D → FO) : Df where
  name := "holds_by"
  ps := ["rule", "told"]
  N := ["rule", "told", "tree"]
  io := []
  fresh := false
  body := (.cons (.ifs (.cmp .Eq (.idx (.var 0) (.int 0)) (.str "not"))
    (.cons (.ret (.not (.call "holds_by" ⟨r, [], false, 2⟩ (.cons (.idx (.var 0) (.int 1)) (.cons (.var 1) .nil)))))
    .nil)
    .nil)
    (.cons (.ifs (.cmp .Eq (.idx (.var 0) (.int 0)) (.str "all"))
    (.cons (.ret (.bfn fAll (.cons (.new (.lc (.val (.idx (.var 0) (.int 1))) (.name 2) .nil (.call "holds_by" ⟨r, [], false, 2⟩ (.cons (.var 2) (.cons (.var 1) .nil))) [2])) .nil)))
    .nil)
    .nil)
    (.cons (.ifs (.cmp .Eq (.idx (.var 0) (.int 0)) (.str "any"))
    (.cons (.ret (.bfn fAny (.cons (.new (.lc (.val (.idx (.var 0) (.int 1))) (.name 2) .nil (.call "holds_by" ⟨r, [], false, 2⟩ (.cons (.var 2) (.cons (.var 1) .nil))) [2])) .nil)))
    .nil)
    .nil)
    (.cons (.ret (.didx (.var 1) (.var 0)))
    .nil))))
  nm := none
theorem k_holds_by (r : List D → FO) : (m_holds_by r).all (topS 8) = true := by kernel_rfl
def f_holds_by : FSem := ⟨recDen m_holds_by 16, [], false, 2⟩

/-! holds_for -/
def d_holds_for : Df where
  name := "holds_for"
  ps := ["rule", "history"]
  N := ["rule", "history", "atom"]
  io := []
  fresh := false
  body := (.cons (.ret (.call "holds_by" f_holds_by (.cons (.var 0) (.cons (.dc (.val (.call "atoms_of" d_atoms_of.sem (.cons (.var 0) .nil))) (.name 2) .nil (.var 2) (.call "atom_holds" d_atom_holds.sem (.cons (.var 2) (.cons (.var 1) .nil))) [2]) .nil))))
    .nil)
  nm := none
theorem k_holds_for : d_holds_for.all (topS 12) = true := by decide +kernel

/-! holds -/
def d_holds : Df where
  name := "holds"
  ps := ["rule", "history"]
  N := ["rule", "history"]
  io := []
  fresh := false
  body := (.cons (.expr (.call "check_rule" d_check_rule.sem (.cons (.var 0) .nil)))
    (.cons (.expr (.call "check_history" d_check_history.sem (.cons (.var 1) .nil)))
    (.cons (.ret (.call "holds_for" d_holds_for.sem (.cons (.var 0) (.cons (.var 1) .nil))))
    .nil)))
  nm := none
theorem k_holds : d_holds.all (topS 37) = true := by decide +kernel

/-! _law_right -/
def d__law_right : Df where
  name := "_law_right"
  ps := ["well"]
  N := ["well", "turn", "rule", "lap", "history", "many", "due", "told"]
  io := [0]
  fresh := false
  body := (.cons (.ifs (.not (.call "_law_is" d__law_is.sem (.cons (.glo "KINDS" g_KINDS) (.cons (.call0 "_law_kinds" d__law_kinds.sem) .nil))))
    (.cons (.ret (.bl false))
    .nil)
    .nil)
    (.cons (.for_ (.name 1) (.range1 (.cons (.int 8) .nil))
    (.cons (.set 2 (.call "_law_rule" d__law_rule.sem (.own_ 0 .nil)))
    (.cons (.for_ (.name 3) (.range1 (.cons (.int 3) .nil))
    (.cons (.set 4 (.call "_law_history" d__law_history.sem (.own_ 0 (.cons (.int 14) .nil))))
    (.cons (.for_ (.name 5) (.range1 (.cons (.bin .Add (.bfn fLen (.cons (.var 4) .nil)) (.int 1)) .nil))
    (.cons (.set 6 (.call "_law_holds" f__law_holds (.cons (.var 2) (.cons (.sli (.var 4) .none (.some (.var 5))) .nil))))
    (.cons (.ifs (.not (.call "_law_is" d__law_is.sem (.cons (.call "holds" d_holds.sem (.cons (.var 2) (.cons (.sli (.var 4) .none (.some (.var 5))) .nil))) (.cons (.var 6) .nil))))
    (.cons (.ret (.bl false))
    .nil)
    .nil)
    .nil)))
    (.cons (.set 7 (.lst (.cons (.callkw "holds" d_holds.sem [1, 0] (.cons "history" (.var 4) (.cons "rule" (.var 2) .nil))) (.cons (.call "holds" d_holds.sem (.cons (.var 2) (.cons (.tup .nil) .nil))) .nil))))
    (.cons (.ifs (.not (.call "_law_is" d__law_is.sem (.cons (.var 7) (.cons (.lst (.cons (.call "_law_holds" f__law_holds (.cons (.var 2) (.cons (.var 4) .nil))) (.cons (.call "_law_holds" f__law_holds (.cons (.var 2) (.cons (.tup .nil) .nil))) .nil))) .nil))))
    (.cons (.ret (.bl false))
    .nil)
    .nil)
    .nil)))))
    .nil)))
    (.cons (.ret (.bl true))
    .nil)))
  nm := none
theorem k__law_right : d__law_right.all (topS 54) = true := by decide +kernel

/-! _law_well -/
def d__law_well : Df where
  name := "_law_well"
  ps := ["script", "lap"]
  N := ["script", "lap", "stirred", "cell", "own"]
  io := []
  fresh := true
  body := (.cons (.set 2 (.bin .Add (.int 641982) (.bin .Mult (.int 5231) (.var 1))))
    (.cons (.for_ (.name 3) (.val (.sli (.var 0) .none (.some (.int 9))))
    (.cons (.set 2 (.bin .Mod (.tfn fInt (.cons (.bin .Add (.bin .Add (.bin .Mult (.var 2) (.int 47521)) (.bin .Mod (.tfn fInt (.cons (.var 3) .nil)) (.int 2147483549))) (.int 41)) .nil)) (.int 2147483629)))
    .nil))
    (.cons (.set 4 (.ife (.cmp .Lt (.var 1) (.bfn fLen (.cons (.var 0) .nil))) (.tfn fInt (.cons (.idx (.var 0) (.var 1)) .nil)) (.int 0)))
    (.cons (.set 2 (.bin .Mod (.tfn fInt (.cons (.bin .Add (.bin .Add (.bin .Mult (.var 2) (.int 61)) (.bin .Mult (.bin .Mod (.tfn fInt (.cons (.var 4) .nil)) (.int 2147483549)) (.int 16007))) (.int 17)) .nil)) (.int 2147483629)))
    (.cons (.retF (.lst (.cons (.ife (.or (.cons (.cmp .Lt (.var 4) (.int 0)) (.one (.cmp .GtE (.var 4) (.bin .Pow (.int 10) (.int 15)))))) (.bfn fAbs (.cons (.var 4) .nil)) (.int 0)) (.cons (.var 2) (.cons (.int 0) .nil)))))
    .nil)))))
  nm := none
theorem k__law_well : d__law_well.all (topS 39) = true := by decide +kernel

/-! law -/
def d_law : Df where
  name := "law"
  ps := ["script"]
  N := ["script", "lap"]
  io := []
  fresh := false
  body := (.cons (.ret (.bfn fAll (.cons (.new (.lc (.range1 (.cons (.bfn fMax (.cons (.int 1) (.cons (.bfn fMin (.cons (.bfn fLen (.cons (.var 0) .nil)) (.cons (.int 3) .nil))) .nil))) .nil)) (.name 1) .nil (.callf "_law_right" d__law_right.sem (.call "_law_well" d__law_well.sem (.cons (.var 0) (.cons (.var 1) .nil)))) [1])) .nil)))
    .nil)
  nm := none
theorem k_law : d_law.all (topS 55) = true := by decide +kernel

-- levels: _law_draw=1, _law_kinds=1, _law_of=2, _law_unlike=2, _law_history=3, _law_atom_holds=1, _law_holds=17, _law_is=1, _law_some=3, _law_atom=4, _law_atoms=5, _law_nodes=16, _law_tree=32, _law_rule=33, is_ascending=1, is_one_of=1, is_day=2, ('c', 0)=3, wrong_at=4, wrong_day=5, check_history=6, trees_in=1, all_atoms=17, atoms_of=18, last_of=1, are_kinds=3, is_whole=1, is_number=2, is_atom=4, is_tuple_of=1, nodes_in=20, is_rule=21, check_rule=22, has_some=1, is_last=1, atom_holds=2, holds_by=16, holds_for=19, holds=23, _law_right=34, _law_well=1, law=35
end K02
set_option Elab.async false
set_option maxRecDepth 100000
set_option maxHeartbeats 4000000
namespace K02
open PySem PySem.Spec L2 Ev
theorem fr_d__law_draw : d__law_draw.fresh = false := rfl
theorem ar_d__law_draw : d__law_draw.ps.length = 2 := rfl
theorem io_d__law_draw : d__law_draw.io = [0] := rfl
theorem fr_d__law_kinds : d__law_kinds.fresh = false := rfl
theorem ar_d__law_kinds : d__law_kinds.ps.length = 0 := rfl
theorem io_d__law_kinds : d__law_kinds.io = [] := rfl
theorem fr_d__law_of : d__law_of.fresh = false := rfl
theorem ar_d__law_of : d__law_of.ps.length = 2 := rfl
theorem io_d__law_of : d__law_of.io = [0] := rfl
theorem fr_d__law_unlike : d__law_unlike.fresh = false := rfl
theorem ar_d__law_unlike : d__law_unlike.ps.length = 3 := rfl
theorem io_d__law_unlike : d__law_unlike.io = [0] := rfl
theorem fr_d__law_history : d__law_history.fresh = false := rfl
theorem ar_d__law_history : d__law_history.ps.length = 2 := rfl
theorem io_d__law_history : d__law_history.io = [0] := rfl
theorem fr_d__law_atom_holds : d__law_atom_holds.fresh = false := rfl
theorem ar_d__law_atom_holds : d__law_atom_holds.ps.length = 2 := rfl
theorem io_d__law_atom_holds : d__law_atom_holds.io = [] := rfl
theorem fr_d__law_is : d__law_is.fresh = false := rfl
theorem ar_d__law_is : d__law_is.ps.length = 2 := rfl
theorem io_d__law_is : d__law_is.io = [] := rfl
theorem fr_d__law_some : d__law_some.fresh = false := rfl
theorem ar_d__law_some : d__law_some.ps.length = 2 := rfl
theorem io_d__law_some : d__law_some.io = [0] := rfl
theorem fr_d__law_atom : d__law_atom.fresh = false := rfl
theorem ar_d__law_atom : d__law_atom.ps.length = 2 := rfl
theorem io_d__law_atom : d__law_atom.io = [0] := rfl
theorem fr_d__law_atoms : d__law_atoms.fresh = false := rfl
theorem ar_d__law_atoms : d__law_atoms.ps.length = 1 := rfl
theorem io_d__law_atoms : d__law_atoms.io = [0] := rfl
theorem fr_d__law_rule : d__law_rule.fresh = false := rfl
theorem ar_d__law_rule : d__law_rule.ps.length = 1 := rfl
theorem io_d__law_rule : d__law_rule.io = [0] := rfl
theorem fr_d_is_ascending : d_is_ascending.fresh = false := rfl
theorem ar_d_is_ascending : d_is_ascending.ps.length = 1 := rfl
theorem io_d_is_ascending : d_is_ascending.io = [] := rfl
theorem fr_d_is_one_of : d_is_one_of.fresh = false := rfl
theorem ar_d_is_one_of : d_is_one_of.ps.length = 2 := rfl
theorem io_d_is_one_of : d_is_one_of.io = [] := rfl
theorem fr_d_is_day : d_is_day.fresh = false := rfl
theorem ar_d_is_day : d_is_day.ps.length = 1 := rfl
theorem io_d_is_day : d_is_day.io = [] := rfl
theorem fr_d_wrong_at : d_wrong_at.fresh = false := rfl
theorem ar_d_wrong_at : d_wrong_at.ps.length = 3 := rfl
theorem io_d_wrong_at : d_wrong_at.io = [] := rfl
theorem fr_d_wrong_day : d_wrong_day.fresh = false := rfl
theorem ar_d_wrong_day : d_wrong_day.ps.length = 1 := rfl
theorem io_d_wrong_day : d_wrong_day.io = [] := rfl
theorem fr_d_check_history : d_check_history.fresh = false := rfl
theorem ar_d_check_history : d_check_history.ps.length = 1 := rfl
theorem io_d_check_history : d_check_history.io = [] := rfl
theorem fr_d_trees_in : d_trees_in.fresh = false := rfl
theorem ar_d_trees_in : d_trees_in.ps.length = 1 := rfl
theorem io_d_trees_in : d_trees_in.io = [] := rfl
theorem fr_d_atoms_of : d_atoms_of.fresh = false := rfl
theorem ar_d_atoms_of : d_atoms_of.ps.length = 1 := rfl
theorem io_d_atoms_of : d_atoms_of.io = [] := rfl
theorem fr_d_last_of : d_last_of.fresh = false := rfl
theorem ar_d_last_of : d_last_of.ps.length = 1 := rfl
theorem io_d_last_of : d_last_of.io = [] := rfl
theorem fr_d_are_kinds : d_are_kinds.fresh = false := rfl
theorem ar_d_are_kinds : d_are_kinds.ps.length = 1 := rfl
theorem io_d_are_kinds : d_are_kinds.io = [] := rfl
theorem fr_d_is_whole : d_is_whole.fresh = false := rfl
theorem ar_d_is_whole : d_is_whole.ps.length = 1 := rfl
theorem io_d_is_whole : d_is_whole.io = [] := rfl
theorem fr_d_is_number : d_is_number.fresh = false := rfl
theorem ar_d_is_number : d_is_number.ps.length = 3 := rfl
theorem io_d_is_number : d_is_number.io = [] := rfl
theorem fr_d_is_atom : d_is_atom.fresh = false := rfl
theorem ar_d_is_atom : d_is_atom.ps.length = 1 := rfl
theorem io_d_is_atom : d_is_atom.io = [] := rfl
theorem fr_d_is_tuple_of : d_is_tuple_of.fresh = false := rfl
theorem ar_d_is_tuple_of : d_is_tuple_of.ps.length = 2 := rfl
theorem io_d_is_tuple_of : d_is_tuple_of.io = [] := rfl
theorem fr_d_is_rule : d_is_rule.fresh = false := rfl
theorem ar_d_is_rule : d_is_rule.ps.length = 1 := rfl
theorem io_d_is_rule : d_is_rule.io = [] := rfl
theorem fr_d_check_rule : d_check_rule.fresh = false := rfl
theorem ar_d_check_rule : d_check_rule.ps.length = 1 := rfl
theorem io_d_check_rule : d_check_rule.io = [] := rfl
theorem fr_d_has_some : d_has_some.fresh = false := rfl
theorem ar_d_has_some : d_has_some.ps.length = 2 := rfl
theorem io_d_has_some : d_has_some.io = [] := rfl
theorem fr_d_is_last : d_is_last.fresh = false := rfl
theorem ar_d_is_last : d_is_last.ps.length = 3 := rfl
theorem io_d_is_last : d_is_last.io = [] := rfl
theorem fr_d_atom_holds : d_atom_holds.fresh = false := rfl
theorem ar_d_atom_holds : d_atom_holds.ps.length = 2 := rfl
theorem io_d_atom_holds : d_atom_holds.io = [] := rfl
theorem fr_d_holds_for : d_holds_for.fresh = false := rfl
theorem ar_d_holds_for : d_holds_for.ps.length = 2 := rfl
theorem io_d_holds_for : d_holds_for.io = [] := rfl
theorem fr_d_holds : d_holds.fresh = false := rfl
theorem ar_d_holds : d_holds.ps.length = 2 := rfl
theorem io_d_holds : d_holds.io = [] := rfl
theorem fr_d__law_right : d__law_right.fresh = false := rfl
theorem ar_d__law_right : d__law_right.ps.length = 1 := rfl
theorem io_d__law_right : d__law_right.io = [0] := rfl
theorem fr_d__law_well : d__law_well.fresh = true := rfl
theorem ar_d__law_well : d__law_well.ps.length = 2 := rfl
theorem io_d__law_well : d__law_well.io = [] := rfl
theorem fr_d_law : d_law.fresh = false := rfl
theorem ar_d_law : d_law.ps.length = 1 := rfl
theorem io_d_law : d_law.io = [] := rfl
theorem fr_m__law_holds (r : List D → FO) : (m__law_holds r).fresh = false := rfl
theorem ar_m__law_holds (r : List D → FO) : (m__law_holds r).ps.length = 2 := rfl
theorem io_m__law_holds (r : List D → FO) : (m__law_holds r).io = [] := rfl
theorem fs__law_holds : f__law_holds.fresh = false := rfl
theorem fa__law_holds : f__law_holds.ar = 2 := rfl
theorem fd__law_holds : f__law_holds.den = recDen m__law_holds 16 := rfl
theorem fr_m__law_nodes (r : List D → FO) : (m__law_nodes r).fresh = false := rfl
theorem ar_m__law_nodes (r : List D → FO) : (m__law_nodes r).ps.length = 1 := rfl
theorem io_m__law_nodes (r : List D → FO) : (m__law_nodes r).io = [] := rfl
theorem fs__law_nodes : f__law_nodes.fresh = false := rfl
theorem fa__law_nodes : f__law_nodes.ar = 1 := rfl
theorem fd__law_nodes : f__law_nodes.den = recDen m__law_nodes 16 := rfl
theorem fr_m__law_tree (r : List D → FO) : (m__law_tree r).fresh = false := rfl
theorem ar_m__law_tree (r : List D → FO) : (m__law_tree r).ps.length = 4 := rfl
theorem io_m__law_tree (r : List D → FO) : (m__law_tree r).io = [0] := rfl
theorem fs__law_tree : f__law_tree.fresh = false := rfl
theorem fa__law_tree : f__law_tree.ar = 4 := rfl
theorem fd__law_tree : f__law_tree.den = recDen m__law_tree 16 := rfl
theorem fr_m_all_atoms (r : List D → FO) : (m_all_atoms r).fresh = false := rfl
theorem ar_m_all_atoms (r : List D → FO) : (m_all_atoms r).ps.length = 1 := rfl
theorem io_m_all_atoms (r : List D → FO) : (m_all_atoms r).io = [] := rfl
theorem fs_all_atoms : f_all_atoms.fresh = false := rfl
theorem fa_all_atoms : f_all_atoms.ar = 1 := rfl
theorem fd_all_atoms : f_all_atoms.den = recDen m_all_atoms 16 := rfl
theorem fr_m_nodes_in (r : List D → FO) : (m_nodes_in r).fresh = false := rfl
theorem ar_m_nodes_in (r : List D → FO) : (m_nodes_in r).ps.length = 2 := rfl
theorem io_m_nodes_in (r : List D → FO) : (m_nodes_in r).io = [] := rfl
theorem fs_nodes_in : f_nodes_in.fresh = false := rfl
theorem fa_nodes_in : f_nodes_in.ar = 2 := rfl
theorem fd_nodes_in : f_nodes_in.den = recDen m_nodes_in 16 := rfl
theorem fr_m_holds_by (r : List D → FO) : (m_holds_by r).fresh = false := rfl
theorem ar_m_holds_by (r : List D → FO) : (m_holds_by r).ps.length = 2 := rfl
theorem io_m_holds_by (r : List D → FO) : (m_holds_by r).io = [] := rfl
theorem fs_holds_by : f_holds_by.fresh = false := rfl
theorem fa_holds_by : f_holds_by.ar = 2 := rfl
theorem fd_holds_by : f_holds_by.den = recDen m_holds_by 16 := rfl
theorem ar_c_0 : c_0.ps.length = 2 := rfl
local macro_rules
  | `(tactic| wp_walk) => `(tactic| simp -dsimp only [↓w_den_int, ↓w_den_str, ↓w_den_bl, ↓w_den_non, ↓w_den_glo, ↓w_den_dict0, ↓w_den_lam, ↓w_con_at, ↓w_as_nil, ↓w_as_cons, ↓w_den_tup, ↓w_den_lst, ↓w_den_bin, ↓w_den_neg, ↓w_den_cmp, ↓w_tst_cmp, ↓w_den_chn, ↓w_tst_chn, ↓w_den_idx, ↓w_den_sli, ↓w_po_none_at, ↓w_po_some_at, ↓w_den_revT, ↓w_den_bfn, ↓w_den_tfn, ↓w_den_isi, ↓w_den_oidx, ↓w_den_olen, ↓w_den_new, ↓w_den_call, ↓w_den_call0, ↓w_den_callf, ↓w_den_callkw, ↓w_den_callv, ↓w_den_and, ↓w_den_or, ↓w_tst_and, ↓w_tst_or, ↓w_one_dAnd, ↓w_one_dOr, ↓w_one_tAnd, ↓w_one_tOr, ↓w_cons_dAnd, ↓w_cons_dOr, ↓w_cons_tAnd, ↓w_cons_tOr, ↓w_den_not, ↓w_tst_not, ↓w_den_ife, ↓w_den_repr, ↓w_tst_repr, ↓w_tst_var, ↓w_tst_isi, ↓w_tst_call, ↓w_tst_callv, ↓w_tst_bfn, ↓w_toD_at, ↓w_ar_nil, ↓w_ar_cons, ↓w_ar_own, ↓w_sr_val, ↓w_sr_enum, ↓w_sr_zip, ↓w_sr_range1, ↓w_cs_nil, ↓w_cs_one, ↓w_fx_lst, ↓w_fx_lc, ↓w_fx_call, ↓w_fx_listRg1, ↓w_den_gindex, ↓w_den_lindex, ↓w_bl_nil, ↓w_bl_cons, ↓w_sm_ret, ↓w_sm_retF, ↓w_sm_retO, ↓w_sm_ifs, ↓w_sm_for, ↓w_sm_set, ↓w_sm_asg, ↓w_sm_frz, ↓w_sm_parM, ↓w_sm_own, ↓w_sm_app, ↓w_sm_stuck, ↓w_ms_nil, ↓w_ms_v, ↓w_ms_f, ↓pz_ok, ↓pz_er, ↓pz_no, ↓pz_bind, ↓pz_ite, ↓sz_ite, ↓fz_ite, ↓sz_nx, ↓sz_bk, ↓sz_ct, ↓sz_rt, ↓sz_rf, ↓sz_er, ↓sz_no, ↓sz_after, ↓sz_next, ↓fz_ok, ↓fz_er, ↓fz_no, ↓pz_lift, ↓pz_var, ↓pz_dvar, ↓pz_dcon, ↓pz_dRepr, ↓pz_oidxD, ↓pz_olenD, ↓pz_callK, ↓pz_callfK, ↓pz_callF, ↓pz_callD, ↓pz_kwD, ↓pz_callvD, ↓sz_ownD, ↓sz_appD, ↓sz_retO, ↓sz_expr, ↓pz_kxnil, ↓pz_kxcons, ↓fz_cden, ↓oz_map, ↓oz_bind, ↓oz_if, ↓oz_ite, ↓pz_dChn, ↓pz_pop, ↓pz_oinD, ↓w_oin_den, ↓w_oin_tst, ↓w_fx_add, ↓w_fx_list, ↓w_fx_lc2, ↓w_den_didx, ↓w_den_lcount, ↓w_den_dc, if_F, wn_nx, wn_bk, wn_ct, wn_rt, wn_rf, wn_er, lp_nx, lp_bk, lp_ct, lp_rt, lp_rf, lp_er, df_nx, df_rt, df_rf, df_er, oz_some, oz_none, isO_n, isO_v, isO_o, slV_z, slV_s, slO_z, slO_s, slN_z, slN_s, isOwn_z, isOwn_s, lstAt_sl, nameD_sl, frzD_sl, fill_nil, fill_cons, put_nil, put_cons, outsE_nil, outsE_cons, kx_ks, kx_ks0, sem_den, sem_io, sem_fresh, sem_ar, csem_den, csem_io, csem_fresh, csem_ar, ar_nil_own, ar_cons_own, ar_own_own, tg_name, tg_tup, tg_sub, tgs_nil, tgs_cons, g_len, g_abs, g_max, g_min, g_divmod, g_all, g_any, g_sum, g_int, g_list, g_tuple, up, nilD, consD, putM, startE, start0, wipeE, noOwn, okF, e_lenD_tup, e_lenD_lst, e_lenD_scr, e_absD_int, e_maxD_int, e_minD_int, e_maxD_lst, e_minD_lst, e_divmodD_int, e_allD_lst, e_anyD_lst, e_sumD_lst, e_intD_int, e_intD_bl, e_listD_lst, e_listD_tup, e_listD_scr, e_tupleD_lst, e_tupleD_tup, e_idxD_tup, e_idxD_lst, e_idxD_scr, e_sliD_tup, e_sliD_lst, e_sliD_scr, e_revTD_tup, e_itemsOf_tup, e_itemsOf_lst, e_itemsOf_scr, e_itemsOf_str, e_enumD_lst, e_enumD_tup, e_zipsD_lst, e_zipsD_tup, e_r1D_int, e_ltD_int, e_ltD_str, e_leD_int, e_isNon_non, e_isNon_bl, e_isNon_int, e_isNon_str, e_isNon_tup, e_isNon_lst, e_isNon_dic, e_isD_bl, e_inD_strt, e_inD_strl, e_inD_intt, e_inD_intl, e_opAdd_int, e_opAdd_str, e_opAdd_tup, e_opAdd_lst, e_opSub_int, e_opMul_int, e_opFdiv_int, e_opMod_int, e_truth_non, e_truth_bl, e_truth_int, e_truth_tup, e_truth_lst, e_truth_dic, e_isL_lst, e_isLst_lst, e_mapB_def, e_cmpD_Lt, e_cmpD_Gt, e_cmpD_LtE, e_cmpD_GtE, e_cmpD_Eq, e_cmpD_NotEq, e_cmpD_In, e_cmpD_NotIn, e_cmpD_Is, e_cmpD_IsNot, e_binD_Add, e_binD_Sub, e_binD_Mult, e_binD_FloorDiv, e_binD_Mod, e_binD_Pow, e_isD_non, e_isi_tyInt_non, e_isi_tyInt_bl, e_isi_tyInt_int, e_isi_tyInt_str, e_isi_tyInt_tup, e_isi_tyInt_lst, e_isi_tyInt_scr, e_isi_tyInt_dic, e_isi_tyBool_non, e_isi_tyBool_bl, e_isi_tyBool_int, e_isi_tyBool_str, e_isi_tyBool_tup, e_isi_tyBool_lst, e_isi_tyBool_scr, e_isi_tyBool_dic, e_isi_tyStr_non, e_isi_tyStr_bl, e_isi_tyStr_int, e_isi_tyStr_str, e_isi_tyStr_tup, e_isi_tyStr_lst, e_isi_tyStr_scr, e_isi_tyStr_dic, e_isi_tyTuple_non, e_isi_tyTuple_bl, e_isi_tyTuple_int, e_isi_tyTuple_str, e_isi_tyTuple_tup, e_isi_tyTuple_lst, e_isi_tyTuple_scr, e_isi_tyTuple_dic, e_isi_tyList_non, e_isi_tyList_bl, e_isi_tyList_int, e_isi_tyList_str, e_isi_tyList_tup, e_isi_tyList_lst, e_isi_tyList_scr, e_isi_tyList_dic, e_isi_tyDict_non, e_isi_tyDict_bl, e_isi_tyDict_int, e_isi_tyDict_str, e_isi_tyDict_tup, e_isi_tyDict_lst, e_isi_tyDict_scr, e_isi_tyDict_dic, e_tup_n, List.set_cons_zero, List.set_cons_succ, List.set_nil, List.length_cons, List.length_nil, List.length_map, List.length_append, List.contains_nil, List.contains_cons, List.replicate_succ, List.replicate_zero, List.cons_append, List.nil_append, List.append_nil, List.map_cons, List.map_nil, List.all_cons, List.all_nil, List.lookup_cons, List.isEmpty_nil, List.isEmpty_cons, Option.getD_some, Option.getD_none, Option.map_some, Option.map_none, Option.bind_some, Option.bind_none, List.getD_cons_zero, List.getD_cons_succ, if_true, if_false, ite_true, ite_false, Bool.false_eq_true, reduceIte, reduceCtorEq, Bool.not_true, Bool.not_false, Bool.not_not, Bool.and_true, Bool.true_and, Bool.and_false, Bool.false_and, Bool.or_true, Bool.true_or, Bool.or_false, Bool.false_or, and_true, true_and, and_false, false_and, and_self, decide_true, decide_false, decide_eq_true_eq, Bool.not_eq_true', Bool.not_eq_eq_eq_not, Nat.zero_add, Nat.add_zero, Nat.reduceAdd, Nat.reduceSub, Nat.reduceLT, Nat.reduceLeDiff, Nat.reduceEqDiff, Nat.reduceBEq, Int.reduceLT, Int.reduceLE, Int.reduceEq, beq_self_eq_true, ne_eq, not_true_eq_false, not_false_eq_true, eq_self, Nat.zero_le, le_size, lt_size, fr_d__law_draw, ar_d__law_draw, io_d__law_draw, fr_d__law_kinds, ar_d__law_kinds, io_d__law_kinds, fr_d__law_of, ar_d__law_of, io_d__law_of, fr_d__law_unlike, ar_d__law_unlike, io_d__law_unlike, fr_d__law_history, ar_d__law_history, io_d__law_history, fr_d__law_atom_holds, ar_d__law_atom_holds, io_d__law_atom_holds, fr_d__law_is, ar_d__law_is, io_d__law_is, fr_d__law_some, ar_d__law_some, io_d__law_some, fr_d__law_atom, ar_d__law_atom, io_d__law_atom, fr_d__law_atoms, ar_d__law_atoms, io_d__law_atoms, fr_d__law_rule, ar_d__law_rule, io_d__law_rule, fr_d_is_ascending, ar_d_is_ascending, io_d_is_ascending, fr_d_is_one_of, ar_d_is_one_of, io_d_is_one_of, fr_d_is_day, ar_d_is_day, io_d_is_day, fr_d_wrong_at, ar_d_wrong_at, io_d_wrong_at, fr_d_wrong_day, ar_d_wrong_day, io_d_wrong_day, fr_d_check_history, ar_d_check_history, io_d_check_history, fr_d_trees_in, ar_d_trees_in, io_d_trees_in, fr_d_atoms_of, ar_d_atoms_of, io_d_atoms_of, fr_d_last_of, ar_d_last_of, io_d_last_of, fr_d_are_kinds, ar_d_are_kinds, io_d_are_kinds, fr_d_is_whole, ar_d_is_whole, io_d_is_whole, fr_d_is_number, ar_d_is_number, io_d_is_number, fr_d_is_atom, ar_d_is_atom, io_d_is_atom, fr_d_is_tuple_of, ar_d_is_tuple_of, io_d_is_tuple_of, fr_d_is_rule, ar_d_is_rule, io_d_is_rule, fr_d_check_rule, ar_d_check_rule, io_d_check_rule, fr_d_has_some, ar_d_has_some, io_d_has_some, fr_d_is_last, ar_d_is_last, io_d_is_last, fr_d_atom_holds, ar_d_atom_holds, io_d_atom_holds, fr_d_holds_for, ar_d_holds_for, io_d_holds_for, fr_d_holds, ar_d_holds, io_d_holds, fr_d__law_right, ar_d__law_right, io_d__law_right, fr_d__law_well, ar_d__law_well, io_d__law_well, fr_d_law, ar_d_law, io_d_law, fr_m__law_holds, ar_m__law_holds, io_m__law_holds, fs__law_holds, fa__law_holds, fd__law_holds, fr_m__law_nodes, ar_m__law_nodes, io_m__law_nodes, fs__law_nodes, fa__law_nodes, fd__law_nodes, fr_m__law_tree, ar_m__law_tree, io_m__law_tree, fs__law_tree, fa__law_tree, fd__law_tree, fr_m_all_atoms, ar_m_all_atoms, io_m_all_atoms, fs_all_atoms, fa_all_atoms, fd_all_atoms, fr_m_nodes_in, ar_m_nodes_in, io_m_nodes_in, fs_nodes_in, fa_nodes_in, fd_nodes_in, fr_m_holds_by, ar_m_holds_by, io_m_holds_by, fs_holds_by, fa_holds_by, fd_holds_by, ar_c_0, e_countD, e_lookD, e_catL, e_listL_lst, e_listL_tup, if_or, if_and, nc_0, nc_1, nc_2, nc_3, nc_4, nc_5, nc_6, nc_7, nc_8, nc_9, nc_10, nc_11, nc_12, or_true, true_or, or_false, false_or, or_self, nw_ever_after, nw_ever_within, nw_ever_times, nw_ever_not, nw_ever_all, nw_ever_any, nw_after_ever, nw_after_within, nw_after_times, nw_after_not, nw_after_all, nw_after_any, nw_within_ever, nw_within_after, nw_within_times, nw_within_not, nw_within_all, nw_within_any, nw_times_ever, nw_times_after, nw_times_within, nw_times_not, nw_times_all, nw_times_any, nw_not_ever, nw_not_after, nw_not_within, nw_not_times, nw_not_all, nw_not_any, nw_all_ever, nw_all_after, nw_all_within, nw_all_times, nw_all_not, nw_all_any, nw_any_ever, nw_any_after, nw_any_within, nw_any_times, nw_any_not, nw_any_all, subD_int, subD_var, ixN_0, ixN_1, ixN_2, at0, at1, at2, at3])
  | `(tactic| wp_walk using $ts,*) => `(tactic| simp -dsimp only [↓w_den_int, ↓w_den_str, ↓w_den_bl, ↓w_den_non, ↓w_den_glo, ↓w_den_dict0, ↓w_den_lam, ↓w_con_at, ↓w_as_nil, ↓w_as_cons, ↓w_den_tup, ↓w_den_lst, ↓w_den_bin, ↓w_den_neg, ↓w_den_cmp, ↓w_tst_cmp, ↓w_den_chn, ↓w_tst_chn, ↓w_den_idx, ↓w_den_sli, ↓w_po_none_at, ↓w_po_some_at, ↓w_den_revT, ↓w_den_bfn, ↓w_den_tfn, ↓w_den_isi, ↓w_den_oidx, ↓w_den_olen, ↓w_den_new, ↓w_den_call, ↓w_den_call0, ↓w_den_callf, ↓w_den_callkw, ↓w_den_callv, ↓w_den_and, ↓w_den_or, ↓w_tst_and, ↓w_tst_or, ↓w_one_dAnd, ↓w_one_dOr, ↓w_one_tAnd, ↓w_one_tOr, ↓w_cons_dAnd, ↓w_cons_dOr, ↓w_cons_tAnd, ↓w_cons_tOr, ↓w_den_not, ↓w_tst_not, ↓w_den_ife, ↓w_den_repr, ↓w_tst_repr, ↓w_tst_var, ↓w_tst_isi, ↓w_tst_call, ↓w_tst_callv, ↓w_tst_bfn, ↓w_toD_at, ↓w_ar_nil, ↓w_ar_cons, ↓w_ar_own, ↓w_sr_val, ↓w_sr_enum, ↓w_sr_zip, ↓w_sr_range1, ↓w_cs_nil, ↓w_cs_one, ↓w_fx_lst, ↓w_fx_lc, ↓w_fx_call, ↓w_fx_listRg1, ↓w_den_gindex, ↓w_den_lindex, ↓w_bl_nil, ↓w_bl_cons, ↓w_sm_ret, ↓w_sm_retF, ↓w_sm_retO, ↓w_sm_ifs, ↓w_sm_for, ↓w_sm_set, ↓w_sm_asg, ↓w_sm_frz, ↓w_sm_parM, ↓w_sm_own, ↓w_sm_app, ↓w_sm_stuck, ↓w_ms_nil, ↓w_ms_v, ↓w_ms_f, ↓pz_ok, ↓pz_er, ↓pz_no, ↓pz_bind, ↓pz_ite, ↓sz_ite, ↓fz_ite, ↓sz_nx, ↓sz_bk, ↓sz_ct, ↓sz_rt, ↓sz_rf, ↓sz_er, ↓sz_no, ↓sz_after, ↓sz_next, ↓fz_ok, ↓fz_er, ↓fz_no, ↓pz_lift, ↓pz_var, ↓pz_dvar, ↓pz_dcon, ↓pz_dRepr, ↓pz_oidxD, ↓pz_olenD, ↓pz_callK, ↓pz_callfK, ↓pz_callF, ↓pz_callD, ↓pz_kwD, ↓pz_callvD, ↓sz_ownD, ↓sz_appD, ↓sz_retO, ↓sz_expr, ↓pz_kxnil, ↓pz_kxcons, ↓fz_cden, ↓oz_map, ↓oz_bind, ↓oz_if, ↓oz_ite, ↓pz_dChn, ↓pz_pop, ↓pz_oinD, ↓w_oin_den, ↓w_oin_tst, ↓w_fx_add, ↓w_fx_list, ↓w_fx_lc2, ↓w_den_didx, ↓w_den_lcount, ↓w_den_dc, if_F, wn_nx, wn_bk, wn_ct, wn_rt, wn_rf, wn_er, lp_nx, lp_bk, lp_ct, lp_rt, lp_rf, lp_er, df_nx, df_rt, df_rf, df_er, oz_some, oz_none, isO_n, isO_v, isO_o, slV_z, slV_s, slO_z, slO_s, slN_z, slN_s, isOwn_z, isOwn_s, lstAt_sl, nameD_sl, frzD_sl, fill_nil, fill_cons, put_nil, put_cons, outsE_nil, outsE_cons, kx_ks, kx_ks0, sem_den, sem_io, sem_fresh, sem_ar, csem_den, csem_io, csem_fresh, csem_ar, ar_nil_own, ar_cons_own, ar_own_own, tg_name, tg_tup, tg_sub, tgs_nil, tgs_cons, g_len, g_abs, g_max, g_min, g_divmod, g_all, g_any, g_sum, g_int, g_list, g_tuple, up, nilD, consD, putM, startE, start0, wipeE, noOwn, okF, e_lenD_tup, e_lenD_lst, e_lenD_scr, e_absD_int, e_maxD_int, e_minD_int, e_maxD_lst, e_minD_lst, e_divmodD_int, e_allD_lst, e_anyD_lst, e_sumD_lst, e_intD_int, e_intD_bl, e_listD_lst, e_listD_tup, e_listD_scr, e_tupleD_lst, e_tupleD_tup, e_idxD_tup, e_idxD_lst, e_idxD_scr, e_sliD_tup, e_sliD_lst, e_sliD_scr, e_revTD_tup, e_itemsOf_tup, e_itemsOf_lst, e_itemsOf_scr, e_itemsOf_str, e_enumD_lst, e_enumD_tup, e_zipsD_lst, e_zipsD_tup, e_r1D_int, e_ltD_int, e_ltD_str, e_leD_int, e_isNon_non, e_isNon_bl, e_isNon_int, e_isNon_str, e_isNon_tup, e_isNon_lst, e_isNon_dic, e_isD_bl, e_inD_strt, e_inD_strl, e_inD_intt, e_inD_intl, e_opAdd_int, e_opAdd_str, e_opAdd_tup, e_opAdd_lst, e_opSub_int, e_opMul_int, e_opFdiv_int, e_opMod_int, e_truth_non, e_truth_bl, e_truth_int, e_truth_tup, e_truth_lst, e_truth_dic, e_isL_lst, e_isLst_lst, e_mapB_def, e_cmpD_Lt, e_cmpD_Gt, e_cmpD_LtE, e_cmpD_GtE, e_cmpD_Eq, e_cmpD_NotEq, e_cmpD_In, e_cmpD_NotIn, e_cmpD_Is, e_cmpD_IsNot, e_binD_Add, e_binD_Sub, e_binD_Mult, e_binD_FloorDiv, e_binD_Mod, e_binD_Pow, e_isD_non, e_isi_tyInt_non, e_isi_tyInt_bl, e_isi_tyInt_int, e_isi_tyInt_str, e_isi_tyInt_tup, e_isi_tyInt_lst, e_isi_tyInt_scr, e_isi_tyInt_dic, e_isi_tyBool_non, e_isi_tyBool_bl, e_isi_tyBool_int, e_isi_tyBool_str, e_isi_tyBool_tup, e_isi_tyBool_lst, e_isi_tyBool_scr, e_isi_tyBool_dic, e_isi_tyStr_non, e_isi_tyStr_bl, e_isi_tyStr_int, e_isi_tyStr_str, e_isi_tyStr_tup, e_isi_tyStr_lst, e_isi_tyStr_scr, e_isi_tyStr_dic, e_isi_tyTuple_non, e_isi_tyTuple_bl, e_isi_tyTuple_int, e_isi_tyTuple_str, e_isi_tyTuple_tup, e_isi_tyTuple_lst, e_isi_tyTuple_scr, e_isi_tyTuple_dic, e_isi_tyList_non, e_isi_tyList_bl, e_isi_tyList_int, e_isi_tyList_str, e_isi_tyList_tup, e_isi_tyList_lst, e_isi_tyList_scr, e_isi_tyList_dic, e_isi_tyDict_non, e_isi_tyDict_bl, e_isi_tyDict_int, e_isi_tyDict_str, e_isi_tyDict_tup, e_isi_tyDict_lst, e_isi_tyDict_scr, e_isi_tyDict_dic, e_tup_n, List.set_cons_zero, List.set_cons_succ, List.set_nil, List.length_cons, List.length_nil, List.length_map, List.length_append, List.contains_nil, List.contains_cons, List.replicate_succ, List.replicate_zero, List.cons_append, List.nil_append, List.append_nil, List.map_cons, List.map_nil, List.all_cons, List.all_nil, List.lookup_cons, List.isEmpty_nil, List.isEmpty_cons, Option.getD_some, Option.getD_none, Option.map_some, Option.map_none, Option.bind_some, Option.bind_none, List.getD_cons_zero, List.getD_cons_succ, if_true, if_false, ite_true, ite_false, Bool.false_eq_true, reduceIte, reduceCtorEq, Bool.not_true, Bool.not_false, Bool.not_not, Bool.and_true, Bool.true_and, Bool.and_false, Bool.false_and, Bool.or_true, Bool.true_or, Bool.or_false, Bool.false_or, and_true, true_and, and_false, false_and, and_self, decide_true, decide_false, decide_eq_true_eq, Bool.not_eq_true', Bool.not_eq_eq_eq_not, Nat.zero_add, Nat.add_zero, Nat.reduceAdd, Nat.reduceSub, Nat.reduceLT, Nat.reduceLeDiff, Nat.reduceEqDiff, Nat.reduceBEq, Int.reduceLT, Int.reduceLE, Int.reduceEq, beq_self_eq_true, ne_eq, not_true_eq_false, not_false_eq_true, eq_self, Nat.zero_le, le_size, lt_size, fr_d__law_draw, ar_d__law_draw, io_d__law_draw, fr_d__law_kinds, ar_d__law_kinds, io_d__law_kinds, fr_d__law_of, ar_d__law_of, io_d__law_of, fr_d__law_unlike, ar_d__law_unlike, io_d__law_unlike, fr_d__law_history, ar_d__law_history, io_d__law_history, fr_d__law_atom_holds, ar_d__law_atom_holds, io_d__law_atom_holds, fr_d__law_is, ar_d__law_is, io_d__law_is, fr_d__law_some, ar_d__law_some, io_d__law_some, fr_d__law_atom, ar_d__law_atom, io_d__law_atom, fr_d__law_atoms, ar_d__law_atoms, io_d__law_atoms, fr_d__law_rule, ar_d__law_rule, io_d__law_rule, fr_d_is_ascending, ar_d_is_ascending, io_d_is_ascending, fr_d_is_one_of, ar_d_is_one_of, io_d_is_one_of, fr_d_is_day, ar_d_is_day, io_d_is_day, fr_d_wrong_at, ar_d_wrong_at, io_d_wrong_at, fr_d_wrong_day, ar_d_wrong_day, io_d_wrong_day, fr_d_check_history, ar_d_check_history, io_d_check_history, fr_d_trees_in, ar_d_trees_in, io_d_trees_in, fr_d_atoms_of, ar_d_atoms_of, io_d_atoms_of, fr_d_last_of, ar_d_last_of, io_d_last_of, fr_d_are_kinds, ar_d_are_kinds, io_d_are_kinds, fr_d_is_whole, ar_d_is_whole, io_d_is_whole, fr_d_is_number, ar_d_is_number, io_d_is_number, fr_d_is_atom, ar_d_is_atom, io_d_is_atom, fr_d_is_tuple_of, ar_d_is_tuple_of, io_d_is_tuple_of, fr_d_is_rule, ar_d_is_rule, io_d_is_rule, fr_d_check_rule, ar_d_check_rule, io_d_check_rule, fr_d_has_some, ar_d_has_some, io_d_has_some, fr_d_is_last, ar_d_is_last, io_d_is_last, fr_d_atom_holds, ar_d_atom_holds, io_d_atom_holds, fr_d_holds_for, ar_d_holds_for, io_d_holds_for, fr_d_holds, ar_d_holds, io_d_holds, fr_d__law_right, ar_d__law_right, io_d__law_right, fr_d__law_well, ar_d__law_well, io_d__law_well, fr_d_law, ar_d_law, io_d_law, fr_m__law_holds, ar_m__law_holds, io_m__law_holds, fs__law_holds, fa__law_holds, fd__law_holds, fr_m__law_nodes, ar_m__law_nodes, io_m__law_nodes, fs__law_nodes, fa__law_nodes, fd__law_nodes, fr_m__law_tree, ar_m__law_tree, io_m__law_tree, fs__law_tree, fa__law_tree, fd__law_tree, fr_m_all_atoms, ar_m_all_atoms, io_m_all_atoms, fs_all_atoms, fa_all_atoms, fd_all_atoms, fr_m_nodes_in, ar_m_nodes_in, io_m_nodes_in, fs_nodes_in, fa_nodes_in, fd_nodes_in, fr_m_holds_by, ar_m_holds_by, io_m_holds_by, fs_holds_by, fa_holds_by, fd_holds_by, ar_c_0, e_countD, e_lookD, e_catL, e_listL_lst, e_listL_tup, if_or, if_and, nc_0, nc_1, nc_2, nc_3, nc_4, nc_5, nc_6, nc_7, nc_8, nc_9, nc_10, nc_11, nc_12, or_true, true_or, or_false, false_or, or_self, nw_ever_after, nw_ever_within, nw_ever_times, nw_ever_not, nw_ever_all, nw_ever_any, nw_after_ever, nw_after_within, nw_after_times, nw_after_not, nw_after_all, nw_after_any, nw_within_ever, nw_within_after, nw_within_times, nw_within_not, nw_within_all, nw_within_any, nw_times_ever, nw_times_after, nw_times_within, nw_times_not, nw_times_all, nw_times_any, nw_not_ever, nw_not_after, nw_not_within, nw_not_times, nw_not_all, nw_not_any, nw_all_ever, nw_all_after, nw_all_within, nw_all_times, nw_all_not, nw_all_any, nw_any_ever, nw_any_after, nw_any_within, nw_any_times, nw_any_not, nw_any_all, subD_int, subD_var, ixN_0, ixN_1, ixN_2, at0, at1, at2, at3, $[$ts:term],*])
/-! ### draws -/
theorem cmul_b {i j : Int} (h1 : -(2 ^ 64) < j) (h2 : j < 2 ^ 64) : CMulB i j = true := by
  unfold CMulB
  rw [decide_eq_true h1, decide_eq_true h2]
  simp
theorem cmul_a {i j : Int} (h1 : -(2 ^ 64) < i) (h2 : i < 2 ^ 64) : CMulB i j = true := by
  unfold CMulB
  rw [decide_eq_true h1, decide_eq_true h2]
  simp
theorem draw_ok {a b c m : Int} (hm : 0 < m) (hm2 : m < 1073741824) : (d__law_draw.den [W3 a b c, .int m]).Ok fun r os => ∃ i a' b' c', r = .int i ∧ os = [W3 a' b' c'] ∧ 0 ≤ i ∧ i < m := by
  show FO.Post _ _ _
  rw [fz_den]
  have hm0 := fun a : Int => Int.emod_nonneg (a := a) (b := m) (by omega)
  have hm1 := fun a : Int => Int.emod_lt_of_pos a hm
  by_cases h : 0 < a
  · wp_walk using d__law_draw, W3, h, hm, hm2
    exact ⟨_, _, _, _, rfl, rfl, hm0 _, hm1 _⟩
  · wp_walk using d__law_draw, W3, h, hm, hm2
    repeat' (apply And.intro)
    all_goals first | omega | exact cmul_b (by omega) (by omega) | exact cmul_a (by omega) (by omega) | skip
    exact ⟨_, _, _, _, rfl, rfl, hm0 _, hm1 _⟩
theorem of_ok {a b c : Int} {v : D} {xs : List D} (hv : v = .tup xs ∨ v = .lst xs) (hn : xs ≠ []) (hl : xs.length ≤ 1000000) : (d__law_of.den [W3 a b c, v]).Ok fun r os => ∃ a' b' c', r ∈ xs ∧ os = [W3 a' b' c'] := by
  have hp : 0 < xs.length := List.length_pos_iff.mpr hn
  show FO.Post _ _ _
  rw [fz_den]
  rcases hv with rfl | rfl
  all_goals
    wp_walk using d__law_of
    refine fz_mono (draw_ok (by omega) (by omega)) ?_
    rintro _ _ ⟨i, a1, b1, c1, rfl, rfl, h1, h2⟩
    obtain ⟨x, hx, e⟩ := atI_in (xs := xs) h1 h2
    wp_walk using e
    exact ⟨_, _, _, hx, rfl⟩
/-- the kinds -/
def k6 : List Str := ["yes", "confirm", "open", "bounce", "no", "complain"]
def kT : D := .tup (k6.map .str)
theorem kinds_den : d__law_kinds.den [] = .ok kT [] := by
  apply FO.eq_of
  show FO.Post _ _ _
  rw [fz_den]
  wp_walk using d__law_kinds
  rfl
/-- some of some texts -/
theorem unlike_ok {a b c : Int} {v : D} {zs : List Str} {m : Int} (hv : v = .tup (zs.map .str) ∨ v = .lst (zs.map .str)) (hl : zs.length ≤ 100) (hm : 0 ≤ m) (hm2 : m ≤ zs.length) :
    (d__law_unlike.den [W3 a b c, v, .int m]).Ok fun r os => ∃ (ys : List Str) (a' b' c' : Int), r = .lst (ys.map .str) ∧ os = [W3 a' b' c'] ∧ ys.Sublist zs ∧ (ys.length : Int) = m := by
  obtain ⟨n, hn⟩ := Int.eq_ofNat_of_zero_le (a := (zs.length : Int) - m) (by omega)
  have hr : rngD [.int ((zs.length : Int) - m)] = some (upFrom 0 1 n) := by rw [hn]; exact rng_nat (by omega)
  show FO.Post _ _ _
  rw [fz_den]
  rcases hv with rfl | rfl
  all_goals
    wp_walk using d__law_unlike, hr
    refine sz_forGo (z := .mk) (fun r ρ => ∃ (ys : List Str) (a b c : Int) (s : Sl) (u : D), (ys.length : Int) = m + r.length ∧ ys.Sublist zs ∧ NO s ∧ ρ = [.o (W3 a b c), .v u, .v (.int m), .o (.lst (ys.map .str)), s]) ⟨zs, a, b, c, .n, _, by rw [upFrom_length]; omega, List.Sublist.refl _, rfl, rfl⟩ ?_ ?_
    · rintro d r ρ ⟨ys, a, b, c, s, u, e1, e2, n4, rfl⟩
      have l1 := e2.length_le
      rw [List.length_cons] at e1
      wp_walk using n4
      refine fz_mono (draw_ok (by omega) (by omega)) ?_
      rintro _ _ ⟨i, a1, b1, c1, rfl, rfl, h1, h2⟩
      obtain ⟨j, rfl⟩ := Int.eq_ofNat_of_zero_le h1
      wp_walk
      have hj : j < (ys.map D.str).length := by rw [List.length_map]; omega
      rw [popD_ok (ds := ys.map .str) rfl hj (by rw [List.length_map]; omega)]
      wp_walk
      refine ⟨ys.eraseIdx j, a1, b1, c1, .v d, u, ?_, (List.eraseIdx_sublist _ _).trans e2, rfl, ?_⟩
      · rw [List.length_eraseIdx_of_lt (by omega)]
        omega
      · rw [Ev.map_eraseIdx]
    · rintro ρ ⟨ys, a, b, c, s, u, e1, e2, n4, rfl⟩
      wp_walk
      exact ⟨ys, a, b, c, rfl, rfl, e2, by rw [List.length_nil] at e1; omega⟩
theorem some_ok {a b c : Int} {m : Int} (hm : 1 ≤ m) (hm2 : m ≤ 6) : (d__law_some.den [W3 a b c, .int m]).Ok fun r os => ∃ (ys : List Str) (a' b' c' : Int), r = .tup (ys.map .str) ∧ os = [W3 a' b' c'] ∧ ys.Sublist k6 ∧ 1 ≤ ys.length ∧ (ys.length : Int) ≤ m := by
  have l6 : k6.length = 6 := rfl
  show FO.Post _ _ _
  rw [fz_den]
  wp_walk using d__law_some, kinds_den
  refine fz_mono (draw_ok (by omega) (by omega)) ?_
  rintro _ _ ⟨i, a1, b1, c1, rfl, rfl, h1, h2⟩
  wp_walk
  refine fz_mono (unlike_ok (zs := k6) (.inl rfl) (by omega) (by omega) (by omega)) ?_
  rintro _ _ ⟨ys, a2, b2, c2, rfl, rfl, h3, h4⟩
  wp_walk
  exact ⟨ys, a2, b2, c2, rfl, rfl, h3, by omega, by omega⟩
/-- what a drawn atom is -/
inductive AtomV : Int → D → Prop
  | ever {l : Int} (k : List Str) : k.Sublist k6 → k ≠ [] → AtomV l (.tup [.str "ever", .tup (k.map .str)])
  | after {l : Int} (a b : List Str) : a.Sublist k6 → a ≠ [] → b.Sublist (k6.filter fun k => !decide (k ∈ a)) → b ≠ [] → AtomV l (.tup [.str "after", .tup (a.map .str), .tup (b.map .str)])
  | within {l : Int} (k : List Str) (n : Int) : k.Sublist k6 → k ≠ [] → 1 ≤ n → n ≤ 4 → n ≤ l → AtomV l (.tup [.str "within", .tup (k.map .str), .int n])
  | times {l : Int} (k : List Str) (m n : Int) : k.Sublist k6 → k ≠ [] → 2 ≤ m → m ≤ 3 → m ≤ n → n ≤ 4 → n ≤ l → AtomV l (.tup [.str "times", .tup (k.map .str), .int m, .int n])
theorem len_ne {α : Type} {xs : List α} (h : 1 ≤ xs.length) : xs ≠ [] := fun z => by rw [z] at h; simp at h
theorem eqD_nil_strs (zs : List Str) : eqD (.lst (zs.map .str)) (.lst []) = some (decide (zs = [])) := by
  have := eqD_strs zs (xs := []) rfl
  rw [this]
  congr 1
  refine Bool.eq_iff_iff.mpr ?_
  rw [decide_eq_true_eq, decide_eq_true_eq]
  show (some [] = some zs) ↔ zs = []
  rw [Option.some.injEq]
  exact eq_comm
theorem of3 {a b c x y z : Int} : (d__law_of.den [W3 a b c, .tup [.int x, .int y, .int z]]).Ok fun r os => ∃ (i a' b' c' : Int), r = .int i ∧ (i = x ∨ i = y ∨ i = z) ∧ os = [W3 a' b' c'] := by
  refine FO.Ok.mono (of_ok (.inl rfl) (by simp) (by simp)) ?_
  rintro r os ⟨a', b', c', h, rfl⟩
  simp only [List.mem_cons, List.not_mem_nil, or_false] at h
  rcases h with rfl | rfl | rfl
  · exact ⟨_, _, _, _, rfl, .inl rfl, rfl⟩
  · exact ⟨_, _, _, _, rfl, .inr (.inl rfl), rfl⟩
  · exact ⟨_, _, _, _, rfl, .inr (.inr rfl), rfl⟩
theorem atom_ok {a b c l : Int} (hl : l ≤ 100) : (d__law_atom.den [W3 a b c, .int l]).Ok fun r os => ∃ (a' b' c' : Int), AtomV l r ∧ os = [W3 a' b' c'] := by
  have l6 : k6.length = 6 := rfl
  show FO.Post _ _ _
  rw [fz_den]
  wp_walk using d__law_atom
  refine fz_mono (draw_ok (by omega) (by omega)) ?_
  rintro _ _ ⟨w, a1, b1, c1, rfl, rfl, h1, h2⟩
  wp_walk using eqD_int
  split
  · refine fz_mono of3 ?_
    rintro _ _ ⟨i, a2, b2, c2, rfl, hi, rfl⟩
    wp_walk
    refine fz_mono (some_ok (by omega) (by omega)) ?_
    rintro _ _ ⟨k, a3, b3, c3, rfl, rfl, h3, h4, h5⟩
    wp_walk
    exact ⟨a3, b3, c3, .ever k h3 (len_ne h4), rfl⟩
  split
  · refine fz_mono of3 ?_
    rintro _ _ ⟨i, a2, b2, c2, rfl, hi, rfl⟩
    wp_walk
    refine fz_mono (some_ok (by omega) (by omega)) ?_
    rintro _ _ ⟨k, a3, b3, c3, rfl, rfl, h3, h4, h5⟩
    wp_walk using kinds_den
    refine pz_lcS (zs := k6) (ρ1 := [.o (W3 a3 b3 c3), .v (.int l), .v (.int w), .v (.tup (k.map .str)), .n, .n, .n]) (fun x => !decide (x ∈ k)) ?_ rfl (by omega) (fun x _ => ?_) ?_
    · refine eq_of_post (?_ : Out.Pz _ _ _ .mk)
      wp_walk using kinds_den, kT
    · wp_walk using inDs_map
    · have l7 := List.length_filter_le (fun x => !decide (x ∈ k)) k6
      have hr : (k6.filter fun x => !decide (x ∈ k)).Sublist k6 := List.filter_sublist
      by_cases hE : (k6.filter fun x => !decide (x ∈ k)) = []
      · wp_walk using eqD_nil_strs, hE, eqD_nn
        exact ⟨a3, b3, c3, .ever k h3 (len_ne h4), rfl⟩
      · have l8 := List.length_pos_iff.mpr hE
        generalize hrest : (k6.filter fun x => !decide (x ∈ k)) = rest at *
        wp_walk using eqD_nil_strs, hE
        refine fz_mono (draw_ok (by omega) (by omega)) ?_
        rintro _ _ ⟨j, a4, b4, c4, rfl, rfl, h6, h7⟩
        wp_walk
        refine fz_mono (unlike_ok (zs := rest) (.inr rfl) (by omega) (by omega) (by omega)) ?_
        rintro _ _ ⟨ys, a5, b5, c5, rfl, rfl, h8, h9⟩
        wp_walk
        refine ⟨a5, b5, c5, .after k ys h3 (len_ne h4) (by rw [hrest]; exact h8) (len_ne (by omega)), rfl⟩
  split
  · refine fz_mono of3 ?_
    rintro _ _ ⟨i, a2, b2, c2, rfl, hi, rfl⟩
    wp_walk
    refine fz_mono (some_ok (by omega) (by omega)) ?_
    rintro _ _ ⟨k, a3, b3, c3, rfl, rfl, h3, h4, h5⟩
    wp_walk
    refine fz_mono (draw_ok (by split <;> omega) (by split <;> omega)) ?_
    rintro _ _ ⟨j, a4, b4, c4, rfl, rfl, h6, h7⟩
    wp_walk
    refine ⟨a4, b4, c4, .within k _ h3 (len_ne h4) (by omega) (by split at h7 <;> omega) (by split at h7 <;> omega), rfl⟩
  · refine fz_mono (draw_ok (by split <;> omega) (by split <;> omega)) ?_
    rintro _ _ ⟨j, a4, b4, c4, rfl, rfl, h6, h7⟩
    wp_walk
    refine fz_mono of3 ?_
    rintro _ _ ⟨i, a2, b2, c2, rfl, hi, rfl⟩
    wp_walk
    refine fz_mono (some_ok (by omega) (by omega)) ?_
    rintro _ _ ⟨k, a3, b3, c3, rfl, rfl, h3, h4, h5⟩
    wp_walk
    refine fz_mono (draw_ok (by split <;> omega) (by split <;> omega)) ?_
    rintro _ _ ⟨p, a5, b5, c5, rfl, rfl, h8, h9⟩
    wp_walk
    refine ⟨a5, b5, c5, .times k _ _ h3 (len_ne h4) (by omega) (by split at h9 <;> omega) (by split at h9 <;> omega) (by split at h7 <;> omega) (by split at h7 <;> omega), rfl⟩
/-! ### values -/
/-- pure data, no deeper than so, no longer than a hundred -/
def dOk : Nat → D → Bool
  | n + 1, .tup xs => decide (xs.length ≤ 100) && xs.all (dOk n)
  | 0, .tup _ => false
  | _, d => flat d
/-- any value, no deeper than so -/
def vOk : Nat → D → Bool
  | n + 1, .tup xs => decide (xs.length ≤ 1000) && xs.all (vOk n)
  | 0, .tup _ => false
  | _, .lst _ => true
  | _, .dic _ => false
  | _, d => flat d
theorem dOk_flat {d : D} (h : flat d = true) (n : Nat) : dOk n d = true := by
  cases d <;> first | (cases h; done) | (cases n <;> exact h)
theorem vOk_flat {d : D} (h : flat d = true) (n : Nat) : vOk n d = true := by
  cases d <;> first | (cases h; done) | (cases n <;> exact h)
theorem dOk_tup {n : Nat} {xs : List D} (hl : xs.length ≤ 100) (h : ∀ x ∈ xs, dOk n x = true) : dOk (n + 1) (.tup xs) = true := by
  show (decide (xs.length ≤ 100) && xs.all (dOk n)) = true
  rw [decide_eq_true hl, Bool.true_and]
  exact List.all_eq_true.mpr h
theorem vOk_tup {n : Nat} {xs : List D} (hl : xs.length ≤ 1000) (h : ∀ x ∈ xs, vOk n x = true) : vOk (n + 1) (.tup xs) = true := by
  show (decide (xs.length ≤ 1000) && xs.all (vOk n)) = true
  rw [decide_eq_true hl, Bool.true_and]
  exact List.all_eq_true.mpr h
theorem dOk_of {n : Nat} {xs : List D} (h : dOk n (.tup xs) = true) : ∃ m, n = m + 1 ∧ xs.length ≤ 100 ∧ ∀ x ∈ xs, dOk m x = true := by
  cases n with
  | zero => cases h
  | succ m =>
    have h : (decide (xs.length ≤ 100) && xs.all (dOk m)) = true := h
    rw [Bool.and_eq_true, decide_eq_true_eq] at h
    exact ⟨m, rfl, h.1, List.all_eq_true.mp h.2⟩
theorem vOk_of {n : Nat} {xs : List D} (h : vOk n (.tup xs) = true) : ∃ m, n = m + 1 ∧ xs.length ≤ 1000 ∧ ∀ x ∈ xs, vOk m x = true := by
  cases n with
  | zero => cases h
  | succ m =>
    have h : (decide (xs.length ≤ 1000) && xs.all (vOk m)) = true := h
    rw [Bool.and_eq_true, decide_eq_true_eq] at h
    exact ⟨m, rfl, h.1, List.all_eq_true.mp h.2⟩
theorem dOk_mono : ∀ {n m : Nat} {d : D}, n ≤ m → dOk n d = true → dOk m d = true
  | n, m, .tup xs, h, e => by
    obtain ⟨k, rfl, h1, h2⟩ := dOk_of e
    obtain ⟨j, rfl⟩ : ∃ j, m = j + 1 := ⟨m - 1, by omega⟩
    exact dOk_tup h1 fun x hx => dOk_mono (by omega) (h2 x hx)
  | n, m, .non, h, e | n, m, .bl _, h, e | n, m, .int _, h, e | n, m, .str _, h, e => dOk_flat rfl m
  | n, m, .lst _, h, e | n, m, .dic _, h, e | n, m, .clo _ _, h, e | n, m, .obj _ _, h, e | n, m, .scr _, h, e => by cases n <;> cases e
theorem vOk_mono : ∀ {n m : Nat} {d : D}, n ≤ m → vOk n d = true → vOk m d = true
  | n, m, .tup xs, h, e => by
    obtain ⟨k, rfl, h1, h2⟩ := vOk_of e
    obtain ⟨j, rfl⟩ : ∃ j, m = j + 1 := ⟨m - 1, by omega⟩
    exact vOk_tup h1 fun x hx => vOk_mono (by omega) (h2 x hx)
  | n, m, .non, h, e | n, m, .bl _, h, e | n, m, .int _, h, e | n, m, .str _, h, e => vOk_flat rfl m
  | n, m, .lst _, h, e => by cases m <;> rfl
  | n, m, .dic _, h, e | n, m, .clo _ _, h, e | n, m, .obj _ _, h, e | n, m, .scr _, h, e => by cases n <;> cases e
theorem vOk_d : ∀ {n : Nat} {d : D}, dOk n d = true → vOk n d = true
  | n, .tup xs, e => by
    obtain ⟨k, rfl, h1, h2⟩ := dOk_of e
    exact vOk_tup (by omega) fun x hx => vOk_d (h2 x hx)
  | n, .non, e | n, .bl _, e | n, .int _, e | n, .str _, e => vOk_flat rfl n
  | n, .lst _, e | n, .dic _, e | n, .clo _ _, e | n, .obj _ _, e | n, .scr _, e => by cases n <;> cases e
theorem dOk_strs {zs : List Str} (h : zs.length ≤ 100) : dOk 1 (.tup (zs.map .str)) = true := dOk_tup (by rw [List.length_map]; exact h) fun x hx => by
  obtain ⟨z, _, rfl⟩ := List.mem_map.mp hx
  rfl
theorem atom_d {l : Int} {d : D} (h : AtomV l d) : dOk 2 d = true := by
  have l6 : k6.length = 6 := rfl
  have lf : ∀ a : List Str, (k6.filter fun k => !decide (k ∈ a)).length ≤ 6 := fun a => List.length_filter_le _ _
  cases h with
  | ever k h1 h2 =>
    refine dOk_tup (by simp) fun x hx => ?_
    have := h1.length_le
    simp only [List.mem_cons, List.not_mem_nil, or_false] at hx
    rcases hx with rfl | rfl
    · rfl
    · exact dOk_strs (by omega)
  | after a b h1 h2 h3 h4 =>
    refine dOk_tup (by simp) fun x hx => ?_
    have := h1.length_le
    have := h3.length_le
    have := lf a
    simp only [List.mem_cons, List.not_mem_nil, or_false] at hx
    rcases hx with rfl | rfl | rfl
    · rfl
    · exact dOk_strs (by omega)
    · exact dOk_strs (by omega)
  | within k n h1 h2 _ _ =>
    refine dOk_tup (by simp) fun x hx => ?_
    have := h1.length_le
    simp only [List.mem_cons, List.not_mem_nil, or_false] at hx
    rcases hx with rfl | rfl | rfl
    · rfl
    · exact dOk_strs (by omega)
    · rfl
  | times k m n h1 h2 _ _ _ _ =>
    refine dOk_tup (by simp) fun x hx => ?_
    have := h1.length_le
    simp only [List.mem_cons, List.not_mem_nil, or_false] at hx
    rcases hx with rfl | rfl | rfl | rfl
    · rfl
    · exact dOk_strs (by omega)
    · rfl
    · rfl
theorem kT_d : dOk 1 kT = true := dOk_strs (by decide)
theorem inDs2 (w x y : Str) : inDs (.str w) [.str x, .str y] = some (decide (w = x ∨ w = y)) := by
  have := inDs_map w [x, y]
  simp only [List.mem_cons, List.not_mem_nil, or_false] at this
  exact this
theorem ints_map {α : Type} (f : α → Int) (xs : List α) : intsOf (xs.map fun x => D.int (f x)) = some (xs.map f) := by
  rw [show (xs.map fun x => D.int (f x)) = (xs.map f).map .int by rw [List.map_map]; rfl]
  exact intsOf_map _
theorem sum_cast {α : Type} (f : α → Nat) (xs : List α) : (xs.map fun x => ((f x : Nat) : Int)).sum = (((xs.map f).sum : Nat) : Int) := by
  induction xs with
  | nil => rfl
  | cons x xs ih =>
    rw [List.map_cons, List.map_cons, List.sum_cons, List.sum_cons, ih]
    omega
theorem at_l3 {α : Type} {a b c : α} : atI [a, b, c] (-1) = some c := rfl
theorem at_l4 {α : Type} {a b c d : α} : atI [a, b, c, d] (-1) = some d := rfl
end K02
set_option Elab.async false
set_option maxRecDepth 100000
set_option maxHeartbeats 4000000
namespace K02
open PySem PySem.Spec L2 Ev
local macro_rules
  | `(tactic| wp_walk) => `(tactic| simp -dsimp only [↓w_den_int, ↓w_den_str, ↓w_den_bl, ↓w_den_non, ↓w_den_glo, ↓w_den_dict0, ↓w_den_lam, ↓w_con_at, ↓w_as_nil, ↓w_as_cons, ↓w_den_tup, ↓w_den_lst, ↓w_den_bin, ↓w_den_neg, ↓w_den_cmp, ↓w_tst_cmp, ↓w_den_chn, ↓w_tst_chn, ↓w_den_idx, ↓w_den_sli, ↓w_po_none_at, ↓w_po_some_at, ↓w_den_revT, ↓w_den_bfn, ↓w_den_tfn, ↓w_den_isi, ↓w_den_oidx, ↓w_den_olen, ↓w_den_new, ↓w_den_call, ↓w_den_call0, ↓w_den_callf, ↓w_den_callkw, ↓w_den_callv, ↓w_den_and, ↓w_den_or, ↓w_tst_and, ↓w_tst_or, ↓w_one_dAnd, ↓w_one_dOr, ↓w_one_tAnd, ↓w_one_tOr, ↓w_cons_dAnd, ↓w_cons_dOr, ↓w_cons_tAnd, ↓w_cons_tOr, ↓w_den_not, ↓w_tst_not, ↓w_den_ife, ↓w_den_repr, ↓w_tst_repr, ↓w_tst_var, ↓w_tst_isi, ↓w_tst_call, ↓w_tst_callv, ↓w_tst_bfn, ↓w_toD_at, ↓w_ar_nil, ↓w_ar_cons, ↓w_ar_own, ↓w_sr_val, ↓w_sr_enum, ↓w_sr_zip, ↓w_sr_range1, ↓w_cs_nil, ↓w_cs_one, ↓w_fx_lst, ↓w_fx_lc, ↓w_fx_call, ↓w_fx_listRg1, ↓w_den_gindex, ↓w_den_lindex, ↓w_bl_nil, ↓w_bl_cons, ↓w_sm_ret, ↓w_sm_retF, ↓w_sm_retO, ↓w_sm_ifs, ↓w_sm_for, ↓w_sm_set, ↓w_sm_asg, ↓w_sm_frz, ↓w_sm_parM, ↓w_sm_own, ↓w_sm_app, ↓w_sm_stuck, ↓w_ms_nil, ↓w_ms_v, ↓w_ms_f, ↓pz_ok, ↓pz_er, ↓pz_no, ↓pz_bind, ↓pz_ite, ↓sz_ite, ↓fz_ite, ↓sz_nx, ↓sz_bk, ↓sz_ct, ↓sz_rt, ↓sz_rf, ↓sz_er, ↓sz_no, ↓sz_after, ↓sz_next, ↓fz_ok, ↓fz_er, ↓fz_no, ↓pz_lift, ↓pz_var, ↓pz_dvar, ↓pz_dcon, ↓pz_dRepr, ↓pz_oidxD, ↓pz_olenD, ↓pz_callK, ↓pz_callfK, ↓pz_callF, ↓pz_callD, ↓pz_kwD, ↓pz_callvD, ↓sz_ownD, ↓sz_appD, ↓sz_retO, ↓sz_expr, ↓pz_kxnil, ↓pz_kxcons, ↓fz_cden, ↓oz_map, ↓oz_bind, ↓oz_if, ↓oz_ite, ↓pz_dChn, ↓pz_pop, ↓pz_oinD, ↓w_oin_den, ↓w_oin_tst, ↓w_fx_add, ↓w_fx_list, ↓w_fx_lc2, ↓w_den_didx, ↓w_den_lcount, ↓w_den_dc, if_F, wn_nx, wn_bk, wn_ct, wn_rt, wn_rf, wn_er, lp_nx, lp_bk, lp_ct, lp_rt, lp_rf, lp_er, df_nx, df_rt, df_rf, df_er, oz_some, oz_none, isO_n, isO_v, isO_o, slV_z, slV_s, slO_z, slO_s, slN_z, slN_s, isOwn_z, isOwn_s, lstAt_sl, nameD_sl, frzD_sl, fill_nil, fill_cons, put_nil, put_cons, outsE_nil, outsE_cons, kx_ks, kx_ks0, sem_den, sem_io, sem_fresh, sem_ar, csem_den, csem_io, csem_fresh, csem_ar, ar_nil_own, ar_cons_own, ar_own_own, tg_name, tg_tup, tg_sub, tgs_nil, tgs_cons, g_len, g_abs, g_max, g_min, g_divmod, g_all, g_any, g_sum, g_int, g_list, g_tuple, up, nilD, consD, putM, startE, start0, wipeE, noOwn, okF, e_lenD_tup, e_lenD_lst, e_lenD_scr, e_absD_int, e_maxD_int, e_minD_int, e_maxD_lst, e_minD_lst, e_divmodD_int, e_allD_lst, e_anyD_lst, e_sumD_lst, e_intD_int, e_intD_bl, e_listD_lst, e_listD_tup, e_listD_scr, e_tupleD_lst, e_tupleD_tup, e_idxD_tup, e_idxD_lst, e_idxD_scr, e_sliD_tup, e_sliD_lst, e_sliD_scr, e_revTD_tup, e_itemsOf_tup, e_itemsOf_lst, e_itemsOf_scr, e_itemsOf_str, e_enumD_lst, e_enumD_tup, e_zipsD_lst, e_zipsD_tup, e_r1D_int, e_ltD_int, e_ltD_str, e_leD_int, e_isNon_non, e_isNon_bl, e_isNon_int, e_isNon_str, e_isNon_tup, e_isNon_lst, e_isNon_dic, e_isD_bl, e_inD_strt, e_inD_strl, e_inD_intt, e_inD_intl, e_opAdd_int, e_opAdd_str, e_opAdd_tup, e_opAdd_lst, e_opSub_int, e_opMul_int, e_opFdiv_int, e_opMod_int, e_truth_non, e_truth_bl, e_truth_int, e_truth_tup, e_truth_lst, e_truth_dic, e_isL_lst, e_isLst_lst, e_mapB_def, e_cmpD_Lt, e_cmpD_Gt, e_cmpD_LtE, e_cmpD_GtE, e_cmpD_Eq, e_cmpD_NotEq, e_cmpD_In, e_cmpD_NotIn, e_cmpD_Is, e_cmpD_IsNot, e_binD_Add, e_binD_Sub, e_binD_Mult, e_binD_FloorDiv, e_binD_Mod, e_binD_Pow, e_isD_non, e_isi_tyInt_non, e_isi_tyInt_bl, e_isi_tyInt_int, e_isi_tyInt_str, e_isi_tyInt_tup, e_isi_tyInt_lst, e_isi_tyInt_scr, e_isi_tyInt_dic, e_isi_tyBool_non, e_isi_tyBool_bl, e_isi_tyBool_int, e_isi_tyBool_str, e_isi_tyBool_tup, e_isi_tyBool_lst, e_isi_tyBool_scr, e_isi_tyBool_dic, e_isi_tyStr_non, e_isi_tyStr_bl, e_isi_tyStr_int, e_isi_tyStr_str, e_isi_tyStr_tup, e_isi_tyStr_lst, e_isi_tyStr_scr, e_isi_tyStr_dic, e_isi_tyTuple_non, e_isi_tyTuple_bl, e_isi_tyTuple_int, e_isi_tyTuple_str, e_isi_tyTuple_tup, e_isi_tyTuple_lst, e_isi_tyTuple_scr, e_isi_tyTuple_dic, e_isi_tyList_non, e_isi_tyList_bl, e_isi_tyList_int, e_isi_tyList_str, e_isi_tyList_tup, e_isi_tyList_lst, e_isi_tyList_scr, e_isi_tyList_dic, e_isi_tyDict_non, e_isi_tyDict_bl, e_isi_tyDict_int, e_isi_tyDict_str, e_isi_tyDict_tup, e_isi_tyDict_lst, e_isi_tyDict_scr, e_isi_tyDict_dic, e_tup_n, List.set_cons_zero, List.set_cons_succ, List.set_nil, List.length_cons, List.length_nil, List.length_map, List.length_append, List.contains_nil, List.contains_cons, List.replicate_succ, List.replicate_zero, List.cons_append, List.nil_append, List.append_nil, List.map_cons, List.map_nil, List.all_cons, List.all_nil, List.lookup_cons, List.isEmpty_nil, List.isEmpty_cons, Option.getD_some, Option.getD_none, Option.map_some, Option.map_none, Option.bind_some, Option.bind_none, List.getD_cons_zero, List.getD_cons_succ, if_true, if_false, ite_true, ite_false, Bool.false_eq_true, reduceIte, reduceCtorEq, Bool.not_true, Bool.not_false, Bool.not_not, Bool.and_true, Bool.true_and, Bool.and_false, Bool.false_and, Bool.or_true, Bool.true_or, Bool.or_false, Bool.false_or, and_true, true_and, and_false, false_and, and_self, decide_true, decide_false, decide_eq_true_eq, Bool.not_eq_true', Bool.not_eq_eq_eq_not, Nat.zero_add, Nat.add_zero, Nat.reduceAdd, Nat.reduceSub, Nat.reduceLT, Nat.reduceLeDiff, Nat.reduceEqDiff, Nat.reduceBEq, Int.reduceLT, Int.reduceLE, Int.reduceEq, beq_self_eq_true, ne_eq, not_true_eq_false, not_false_eq_true, eq_self, Nat.zero_le, le_size, lt_size, fr_d__law_draw, ar_d__law_draw, io_d__law_draw, fr_d__law_kinds, ar_d__law_kinds, io_d__law_kinds, fr_d__law_of, ar_d__law_of, io_d__law_of, fr_d__law_unlike, ar_d__law_unlike, io_d__law_unlike, fr_d__law_history, ar_d__law_history, io_d__law_history, fr_d__law_atom_holds, ar_d__law_atom_holds, io_d__law_atom_holds, fr_d__law_is, ar_d__law_is, io_d__law_is, fr_d__law_some, ar_d__law_some, io_d__law_some, fr_d__law_atom, ar_d__law_atom, io_d__law_atom, fr_d__law_atoms, ar_d__law_atoms, io_d__law_atoms, fr_d__law_rule, ar_d__law_rule, io_d__law_rule, fr_d_is_ascending, ar_d_is_ascending, io_d_is_ascending, fr_d_is_one_of, ar_d_is_one_of, io_d_is_one_of, fr_d_is_day, ar_d_is_day, io_d_is_day, fr_d_wrong_at, ar_d_wrong_at, io_d_wrong_at, fr_d_wrong_day, ar_d_wrong_day, io_d_wrong_day, fr_d_check_history, ar_d_check_history, io_d_check_history, fr_d_trees_in, ar_d_trees_in, io_d_trees_in, fr_d_atoms_of, ar_d_atoms_of, io_d_atoms_of, fr_d_last_of, ar_d_last_of, io_d_last_of, fr_d_are_kinds, ar_d_are_kinds, io_d_are_kinds, fr_d_is_whole, ar_d_is_whole, io_d_is_whole, fr_d_is_number, ar_d_is_number, io_d_is_number, fr_d_is_atom, ar_d_is_atom, io_d_is_atom, fr_d_is_tuple_of, ar_d_is_tuple_of, io_d_is_tuple_of, fr_d_is_rule, ar_d_is_rule, io_d_is_rule, fr_d_check_rule, ar_d_check_rule, io_d_check_rule, fr_d_has_some, ar_d_has_some, io_d_has_some, fr_d_is_last, ar_d_is_last, io_d_is_last, fr_d_atom_holds, ar_d_atom_holds, io_d_atom_holds, fr_d_holds_for, ar_d_holds_for, io_d_holds_for, fr_d_holds, ar_d_holds, io_d_holds, fr_d__law_right, ar_d__law_right, io_d__law_right, fr_d__law_well, ar_d__law_well, io_d__law_well, fr_d_law, ar_d_law, io_d_law, fr_m__law_holds, ar_m__law_holds, io_m__law_holds, fs__law_holds, fa__law_holds, fd__law_holds, fr_m__law_nodes, ar_m__law_nodes, io_m__law_nodes, fs__law_nodes, fa__law_nodes, fd__law_nodes, fr_m__law_tree, ar_m__law_tree, io_m__law_tree, fs__law_tree, fa__law_tree, fd__law_tree, fr_m_all_atoms, ar_m_all_atoms, io_m_all_atoms, fs_all_atoms, fa_all_atoms, fd_all_atoms, fr_m_nodes_in, ar_m_nodes_in, io_m_nodes_in, fs_nodes_in, fa_nodes_in, fd_nodes_in, fr_m_holds_by, ar_m_holds_by, io_m_holds_by, fs_holds_by, fa_holds_by, fd_holds_by, ar_c_0, e_countD, e_lookD, e_catL, e_listL_lst, e_listL_tup, if_or, if_and, nc_0, nc_1, nc_2, nc_3, nc_4, nc_5, nc_6, nc_7, nc_8, nc_9, nc_10, nc_11, nc_12, or_true, true_or, or_false, false_or, or_self, nw_ever_after, nw_ever_within, nw_ever_times, nw_ever_not, nw_ever_all, nw_ever_any, nw_after_ever, nw_after_within, nw_after_times, nw_after_not, nw_after_all, nw_after_any, nw_within_ever, nw_within_after, nw_within_times, nw_within_not, nw_within_all, nw_within_any, nw_times_ever, nw_times_after, nw_times_within, nw_times_not, nw_times_all, nw_times_any, nw_not_ever, nw_not_after, nw_not_within, nw_not_times, nw_not_all, nw_not_any, nw_all_ever, nw_all_after, nw_all_within, nw_all_times, nw_all_not, nw_all_any, nw_any_ever, nw_any_after, nw_any_within, nw_any_times, nw_any_not, nw_any_all, subD_int, subD_var, ixN_0, ixN_1, ixN_2, at0, at1, at2, at3])
  | `(tactic| wp_walk using $ts,*) => `(tactic| simp -dsimp only [↓w_den_int, ↓w_den_str, ↓w_den_bl, ↓w_den_non, ↓w_den_glo, ↓w_den_dict0, ↓w_den_lam, ↓w_con_at, ↓w_as_nil, ↓w_as_cons, ↓w_den_tup, ↓w_den_lst, ↓w_den_bin, ↓w_den_neg, ↓w_den_cmp, ↓w_tst_cmp, ↓w_den_chn, ↓w_tst_chn, ↓w_den_idx, ↓w_den_sli, ↓w_po_none_at, ↓w_po_some_at, ↓w_den_revT, ↓w_den_bfn, ↓w_den_tfn, ↓w_den_isi, ↓w_den_oidx, ↓w_den_olen, ↓w_den_new, ↓w_den_call, ↓w_den_call0, ↓w_den_callf, ↓w_den_callkw, ↓w_den_callv, ↓w_den_and, ↓w_den_or, ↓w_tst_and, ↓w_tst_or, ↓w_one_dAnd, ↓w_one_dOr, ↓w_one_tAnd, ↓w_one_tOr, ↓w_cons_dAnd, ↓w_cons_dOr, ↓w_cons_tAnd, ↓w_cons_tOr, ↓w_den_not, ↓w_tst_not, ↓w_den_ife, ↓w_den_repr, ↓w_tst_repr, ↓w_tst_var, ↓w_tst_isi, ↓w_tst_call, ↓w_tst_callv, ↓w_tst_bfn, ↓w_toD_at, ↓w_ar_nil, ↓w_ar_cons, ↓w_ar_own, ↓w_sr_val, ↓w_sr_enum, ↓w_sr_zip, ↓w_sr_range1, ↓w_cs_nil, ↓w_cs_one, ↓w_fx_lst, ↓w_fx_lc, ↓w_fx_call, ↓w_fx_listRg1, ↓w_den_gindex, ↓w_den_lindex, ↓w_bl_nil, ↓w_bl_cons, ↓w_sm_ret, ↓w_sm_retF, ↓w_sm_retO, ↓w_sm_ifs, ↓w_sm_for, ↓w_sm_set, ↓w_sm_asg, ↓w_sm_frz, ↓w_sm_parM, ↓w_sm_own, ↓w_sm_app, ↓w_sm_stuck, ↓w_ms_nil, ↓w_ms_v, ↓w_ms_f, ↓pz_ok, ↓pz_er, ↓pz_no, ↓pz_bind, ↓pz_ite, ↓sz_ite, ↓fz_ite, ↓sz_nx, ↓sz_bk, ↓sz_ct, ↓sz_rt, ↓sz_rf, ↓sz_er, ↓sz_no, ↓sz_after, ↓sz_next, ↓fz_ok, ↓fz_er, ↓fz_no, ↓pz_lift, ↓pz_var, ↓pz_dvar, ↓pz_dcon, ↓pz_dRepr, ↓pz_oidxD, ↓pz_olenD, ↓pz_callK, ↓pz_callfK, ↓pz_callF, ↓pz_callD, ↓pz_kwD, ↓pz_callvD, ↓sz_ownD, ↓sz_appD, ↓sz_retO, ↓sz_expr, ↓pz_kxnil, ↓pz_kxcons, ↓fz_cden, ↓oz_map, ↓oz_bind, ↓oz_if, ↓oz_ite, ↓pz_dChn, ↓pz_pop, ↓pz_oinD, ↓w_oin_den, ↓w_oin_tst, ↓w_fx_add, ↓w_fx_list, ↓w_fx_lc2, ↓w_den_didx, ↓w_den_lcount, ↓w_den_dc, if_F, wn_nx, wn_bk, wn_ct, wn_rt, wn_rf, wn_er, lp_nx, lp_bk, lp_ct, lp_rt, lp_rf, lp_er, df_nx, df_rt, df_rf, df_er, oz_some, oz_none, isO_n, isO_v, isO_o, slV_z, slV_s, slO_z, slO_s, slN_z, slN_s, isOwn_z, isOwn_s, lstAt_sl, nameD_sl, frzD_sl, fill_nil, fill_cons, put_nil, put_cons, outsE_nil, outsE_cons, kx_ks, kx_ks0, sem_den, sem_io, sem_fresh, sem_ar, csem_den, csem_io, csem_fresh, csem_ar, ar_nil_own, ar_cons_own, ar_own_own, tg_name, tg_tup, tg_sub, tgs_nil, tgs_cons, g_len, g_abs, g_max, g_min, g_divmod, g_all, g_any, g_sum, g_int, g_list, g_tuple, up, nilD, consD, putM, startE, start0, wipeE, noOwn, okF, e_lenD_tup, e_lenD_lst, e_lenD_scr, e_absD_int, e_maxD_int, e_minD_int, e_maxD_lst, e_minD_lst, e_divmodD_int, e_allD_lst, e_anyD_lst, e_sumD_lst, e_intD_int, e_intD_bl, e_listD_lst, e_listD_tup, e_listD_scr, e_tupleD_lst, e_tupleD_tup, e_idxD_tup, e_idxD_lst, e_idxD_scr, e_sliD_tup, e_sliD_lst, e_sliD_scr, e_revTD_tup, e_itemsOf_tup, e_itemsOf_lst, e_itemsOf_scr, e_itemsOf_str, e_enumD_lst, e_enumD_tup, e_zipsD_lst, e_zipsD_tup, e_r1D_int, e_ltD_int, e_ltD_str, e_leD_int, e_isNon_non, e_isNon_bl, e_isNon_int, e_isNon_str, e_isNon_tup, e_isNon_lst, e_isNon_dic, e_isD_bl, e_inD_strt, e_inD_strl, e_inD_intt, e_inD_intl, e_opAdd_int, e_opAdd_str, e_opAdd_tup, e_opAdd_lst, e_opSub_int, e_opMul_int, e_opFdiv_int, e_opMod_int, e_truth_non, e_truth_bl, e_truth_int, e_truth_tup, e_truth_lst, e_truth_dic, e_isL_lst, e_isLst_lst, e_mapB_def, e_cmpD_Lt, e_cmpD_Gt, e_cmpD_LtE, e_cmpD_GtE, e_cmpD_Eq, e_cmpD_NotEq, e_cmpD_In, e_cmpD_NotIn, e_cmpD_Is, e_cmpD_IsNot, e_binD_Add, e_binD_Sub, e_binD_Mult, e_binD_FloorDiv, e_binD_Mod, e_binD_Pow, e_isD_non, e_isi_tyInt_non, e_isi_tyInt_bl, e_isi_tyInt_int, e_isi_tyInt_str, e_isi_tyInt_tup, e_isi_tyInt_lst, e_isi_tyInt_scr, e_isi_tyInt_dic, e_isi_tyBool_non, e_isi_tyBool_bl, e_isi_tyBool_int, e_isi_tyBool_str, e_isi_tyBool_tup, e_isi_tyBool_lst, e_isi_tyBool_scr, e_isi_tyBool_dic, e_isi_tyStr_non, e_isi_tyStr_bl, e_isi_tyStr_int, e_isi_tyStr_str, e_isi_tyStr_tup, e_isi_tyStr_lst, e_isi_tyStr_scr, e_isi_tyStr_dic, e_isi_tyTuple_non, e_isi_tyTuple_bl, e_isi_tyTuple_int, e_isi_tyTuple_str, e_isi_tyTuple_tup, e_isi_tyTuple_lst, e_isi_tyTuple_scr, e_isi_tyTuple_dic, e_isi_tyList_non, e_isi_tyList_bl, e_isi_tyList_int, e_isi_tyList_str, e_isi_tyList_tup, e_isi_tyList_lst, e_isi_tyList_scr, e_isi_tyList_dic, e_isi_tyDict_non, e_isi_tyDict_bl, e_isi_tyDict_int, e_isi_tyDict_str, e_isi_tyDict_tup, e_isi_tyDict_lst, e_isi_tyDict_scr, e_isi_tyDict_dic, e_tup_n, List.set_cons_zero, List.set_cons_succ, List.set_nil, List.length_cons, List.length_nil, List.length_map, List.length_append, List.contains_nil, List.contains_cons, List.replicate_succ, List.replicate_zero, List.cons_append, List.nil_append, List.append_nil, List.map_cons, List.map_nil, List.all_cons, List.all_nil, List.lookup_cons, List.isEmpty_nil, List.isEmpty_cons, Option.getD_some, Option.getD_none, Option.map_some, Option.map_none, Option.bind_some, Option.bind_none, List.getD_cons_zero, List.getD_cons_succ, if_true, if_false, ite_true, ite_false, Bool.false_eq_true, reduceIte, reduceCtorEq, Bool.not_true, Bool.not_false, Bool.not_not, Bool.and_true, Bool.true_and, Bool.and_false, Bool.false_and, Bool.or_true, Bool.true_or, Bool.or_false, Bool.false_or, and_true, true_and, and_false, false_and, and_self, decide_true, decide_false, decide_eq_true_eq, Bool.not_eq_true', Bool.not_eq_eq_eq_not, Nat.zero_add, Nat.add_zero, Nat.reduceAdd, Nat.reduceSub, Nat.reduceLT, Nat.reduceLeDiff, Nat.reduceEqDiff, Nat.reduceBEq, Int.reduceLT, Int.reduceLE, Int.reduceEq, beq_self_eq_true, ne_eq, not_true_eq_false, not_false_eq_true, eq_self, Nat.zero_le, le_size, lt_size, fr_d__law_draw, ar_d__law_draw, io_d__law_draw, fr_d__law_kinds, ar_d__law_kinds, io_d__law_kinds, fr_d__law_of, ar_d__law_of, io_d__law_of, fr_d__law_unlike, ar_d__law_unlike, io_d__law_unlike, fr_d__law_history, ar_d__law_history, io_d__law_history, fr_d__law_atom_holds, ar_d__law_atom_holds, io_d__law_atom_holds, fr_d__law_is, ar_d__law_is, io_d__law_is, fr_d__law_some, ar_d__law_some, io_d__law_some, fr_d__law_atom, ar_d__law_atom, io_d__law_atom, fr_d__law_atoms, ar_d__law_atoms, io_d__law_atoms, fr_d__law_rule, ar_d__law_rule, io_d__law_rule, fr_d_is_ascending, ar_d_is_ascending, io_d_is_ascending, fr_d_is_one_of, ar_d_is_one_of, io_d_is_one_of, fr_d_is_day, ar_d_is_day, io_d_is_day, fr_d_wrong_at, ar_d_wrong_at, io_d_wrong_at, fr_d_wrong_day, ar_d_wrong_day, io_d_wrong_day, fr_d_check_history, ar_d_check_history, io_d_check_history, fr_d_trees_in, ar_d_trees_in, io_d_trees_in, fr_d_atoms_of, ar_d_atoms_of, io_d_atoms_of, fr_d_last_of, ar_d_last_of, io_d_last_of, fr_d_are_kinds, ar_d_are_kinds, io_d_are_kinds, fr_d_is_whole, ar_d_is_whole, io_d_is_whole, fr_d_is_number, ar_d_is_number, io_d_is_number, fr_d_is_atom, ar_d_is_atom, io_d_is_atom, fr_d_is_tuple_of, ar_d_is_tuple_of, io_d_is_tuple_of, fr_d_is_rule, ar_d_is_rule, io_d_is_rule, fr_d_check_rule, ar_d_check_rule, io_d_check_rule, fr_d_has_some, ar_d_has_some, io_d_has_some, fr_d_is_last, ar_d_is_last, io_d_is_last, fr_d_atom_holds, ar_d_atom_holds, io_d_atom_holds, fr_d_holds_for, ar_d_holds_for, io_d_holds_for, fr_d_holds, ar_d_holds, io_d_holds, fr_d__law_right, ar_d__law_right, io_d__law_right, fr_d__law_well, ar_d__law_well, io_d__law_well, fr_d_law, ar_d_law, io_d_law, fr_m__law_holds, ar_m__law_holds, io_m__law_holds, fs__law_holds, fa__law_holds, fd__law_holds, fr_m__law_nodes, ar_m__law_nodes, io_m__law_nodes, fs__law_nodes, fa__law_nodes, fd__law_nodes, fr_m__law_tree, ar_m__law_tree, io_m__law_tree, fs__law_tree, fa__law_tree, fd__law_tree, fr_m_all_atoms, ar_m_all_atoms, io_m_all_atoms, fs_all_atoms, fa_all_atoms, fd_all_atoms, fr_m_nodes_in, ar_m_nodes_in, io_m_nodes_in, fs_nodes_in, fa_nodes_in, fd_nodes_in, fr_m_holds_by, ar_m_holds_by, io_m_holds_by, fs_holds_by, fa_holds_by, fd_holds_by, ar_c_0, e_countD, e_lookD, e_catL, e_listL_lst, e_listL_tup, if_or, if_and, nc_0, nc_1, nc_2, nc_3, nc_4, nc_5, nc_6, nc_7, nc_8, nc_9, nc_10, nc_11, nc_12, or_true, true_or, or_false, false_or, or_self, nw_ever_after, nw_ever_within, nw_ever_times, nw_ever_not, nw_ever_all, nw_ever_any, nw_after_ever, nw_after_within, nw_after_times, nw_after_not, nw_after_all, nw_after_any, nw_within_ever, nw_within_after, nw_within_times, nw_within_not, nw_within_all, nw_within_any, nw_times_ever, nw_times_after, nw_times_within, nw_times_not, nw_times_all, nw_times_any, nw_not_ever, nw_not_after, nw_not_within, nw_not_times, nw_not_all, nw_not_any, nw_all_ever, nw_all_after, nw_all_within, nw_all_times, nw_all_not, nw_all_any, nw_any_ever, nw_any_after, nw_any_within, nw_any_times, nw_any_not, nw_any_all, subD_int, subD_var, ixN_0, ixN_1, ixN_2, at0, at1, at2, at3, $[$ts:term],*])
/-! ### histories, deep rules, bent values -/
theorem day_d {l : List Str} (h : l.Sublist k6) : dOk 1 (.tup (l.map .str)) = true := dOk_strs (by have := h.length_le; have l6 : k6.length = 6 := rfl; omega)
theorem history_ok {a b c : Int} {m : Nat} (hm : m ≤ 50) : (d__law_history.den [W3 a b c, .int (m : Int)]).Ok fun r os => ∃ (h : List (List Str)) (a' b' c' : Int), r = .tup (h.map fun l => .tup (l.map .str)) ∧ os = [W3 a' b' c'] ∧ h.length ≤ m ∧ ∀ l ∈ h, l.Sublist k6 := by
  have l6 : k6.length = 6 := rfl
  show FO.Post _ _ _
  rw [fz_den]
  wp_walk using d__law_history, kinds_den
  refine fz_mono (of_ok (.inl rfl) (by simp) (by simp)) ?_
  rintro x _ ⟨a1, b1, c1, hx, rfl⟩
  obtain ⟨n, rfl, h1, h2⟩ : ∃ n : Int, x = .int n ∧ 1 ≤ n ∧ n ≤ 6 := by
    simp only [List.mem_cons, List.not_mem_nil, or_false] at hx
    rcases hx with rfl | rfl | rfl | rfl <;> exact ⟨_, rfl, by omega, by omega⟩
  wp_walk
  refine fz_mono (unlike_ok (zs := k6) (.inl rfl) (by omega) (by omega) (by omega)) ?_
  rintro _ _ ⟨ab, a2, b2, c2, rfl, rfl, h3, h4⟩
  wp_walk
  refine fz_mono (draw_ok (by omega) (by omega)) ?_
  rintro _ _ ⟨i, a3, b3, c3, rfl, rfl, h5, h6⟩
  obtain ⟨i, rfl⟩ := Int.eq_ofNat_of_zero_le h5
  wp_walk using rng_nat (n := i) (by omega)
  refine sz_forGo (z := .mk) (fun r ρ => ∃ (h : List (List Str)) (a b c : Int) (s : Sl), h.length + r.length = i ∧ NO s ∧ (∀ l ∈ h, l.Sublist k6) ∧ ρ = [.o (W3 a b c), .v (.int m), .o (.lst (h.map fun l => .tup (l.map .str))), .v (.lst (ab.map .str)), s]) ⟨[], a3, b3, c3, .n, by simp [upFrom_length], rfl, (fun _ h => nomatch h), rfl⟩ ?_ ?_
  · rintro d r ρ ⟨h, a, b, c, s, e1, n2, e3, rfl⟩
    rw [List.length_cons] at e1
    wp_walk using n2
    refine fz_mono (of_ok (.inl rfl) (by simp) (by simp)) ?_
    rintro x _ ⟨a1, b1, c1, hx, rfl⟩
    obtain ⟨n', rfl, h7, h8⟩ : ∃ n' : Int, x = .int n' ∧ 1 ≤ n' ∧ (n' ≤ 2 ∨ n' = (ab.length : Int) + 1) := by
      simp only [List.mem_cons, List.not_mem_nil, or_false] at hx
      rcases hx with rfl | rfl | rfl
      · exact ⟨_, rfl, by omega, by omega⟩
      · exact ⟨_, rfl, by omega, by omega⟩
      · exact ⟨_, rfl, by omega, by omega⟩
    wp_walk
    have lab := h3.length_le
    refine fz_mono (draw_ok (by omega) (by omega)) ?_
    rintro _ _ ⟨j, a4, b4, c4, rfl, rfl, h9, h10⟩
    wp_walk
    refine fz_mono (unlike_ok (zs := ab) (.inr rfl) (by omega) (by omega) (by omega)) ?_
    rintro _ _ ⟨ys, a5, b5, c5, rfl, rfl, h11, h12⟩
    have lh : h.length < 16777216 := by omega
    wp_walk using lh
    refine ⟨h ++ [ys], a5, b5, c5, .v d, by simp; omega, rfl, fun l hl => ?_, by rw [List.map_append]; rfl⟩
    rcases List.mem_append.mp hl with z | z
    · exact e3 l z
    · rw [List.mem_singleton.mp z]; exact h11.trans h3
  · rintro ρ ⟨h, a, b, c, s, e1, n2, e3, rfl⟩
    wp_walk
    exact ⟨h, a, b, c, rfl, rfl, by simp at e1; omega, e3⟩
theorem hist_d {h : List (List Str)} (hl : h.length ≤ 100) (hd : ∀ l ∈ h, l.Sublist k6) : dOk 2 (.tup (h.map fun l => .tup (l.map .str))) = true := dOk_tup (by rw [List.length_map]; exact hl) fun x hx => by
  obtain ⟨l, hl, rfl⟩ := List.mem_map.mp hx
  exact day_d (hd l hl)
theorem dOk_data : ∀ {n : Nat} {d : D}, dOk n d = true → d.data = true ∧ d.toP.depth ≤ n
  | n, .tup xs, e => by
    obtain ⟨k, rfl, h1, h2⟩ := dOk_of e
    have key : ∀ ys : List D, (∀ y ∈ ys, dOk k y = true) → Ds.data ys = true ∧ PyData.depthAll (Ds.toP ys) ≤ k := by
      intro ys
      induction ys with
      | nil => exact fun _ => ⟨rfl, Nat.zero_le _⟩
      | cons y ys ih =>
        intro hy
        obtain ⟨g1, g2⟩ := dOk_data (hy y List.mem_cons_self)
        obtain ⟨g3, g4⟩ := ih fun z hz => hy z (List.mem_cons_of_mem _ hz)
        refine ⟨by rw [Ds.data, g1, g3]; rfl, ?_⟩
        rw [Ds.toP, PyData.depthAll]
        omega
    obtain ⟨g1, g2⟩ := key xs h2
    refine ⟨g1, ?_⟩
    simp only [D.toP, PyData.depth]
    omega
  | n, .non, e | n, .bl _, e | n, .int _, e | n, .str _, e => ⟨rfl, by simp [D.toP, PyData.depth]⟩
  | n, .lst _, e | n, .dic _, e | n, .clo _ _, e | n, .obj _ _, e | n, .scr _, e => by cases n <;> cases e
  termination_by n => n
theorem eqD_tnil {n : Nat} {xs : List D} (h : dOk n (.tup xs) = true) : eqD (.tup xs) (.tup []) = some (decide (xs = [])) := by
  obtain ⟨h1, h2⟩ := dOk_data h
  unfold eqD
  rw [if_pos (by rw [h1]; simp [D.data, Ds.data, D.toP, Ds.toP, PyData.depth, PyData.depthAll] <;> omega)]
  cases xs <;> simp [D.toP, Ds.toP, PyData.eqv, PyData.eqvAll]
/-! ### what is judged -/
def dayOf (zs : List Str) : List Str := k6.filter fun k => decide (k ∈ zs)
def isDayB : D → Bool
  | .tup xs => match strsOf xs with
    | some zs => decide (dayOf zs = zs)
    | none => false
  | _ => false
def isHistB : D → Bool
  | .tup ds => ds.all isDayB
  | _ => false
/-- some kinds, so many at least -/
def kindsB (l : Nat) : D → Bool
  | .tup xs => decide (l ≤ xs.length) && isDayB (.tup xs)
  | _ => false
def isStrB : D → Bool
  | .str _ => true
  | _ => false
theorem strsOf_all {xs : List D} : (strsOf xs).isSome = xs.all isStrB := by
  induction xs with
  | nil => rfl
  | cons x xs ih =>
    rw [List.all_cons, ← ih]
    cases x with
    | str s =>
      show ((strsOf xs).map (s :: ·)).isSome = (true && (strsOf xs).isSome)
      cases strsOf xs <;> rfl
    | _ => rfl
theorem strs_exist {xs : List D} (h : xs.all isStrB = true) : ∃ zs : List Str, xs = zs.map .str := by
  rw [← strsOf_all] at h
  cases q : strsOf xs with
  | none => rw [q] at h; cases h
  | some zs => exact ⟨zs, strsOf_some q⟩
theorem isDay_strs (zs : List Str) : isDayB (.tup (zs.map .str)) = decide (dayOf zs = zs) := by
  show (match strsOf (zs.map D.str) with
    | some zs => decide (dayOf zs = zs)
    | none => false) = _
  rw [strsOf_map]
theorem isDay_not {xs : List D} (h : xs.all isStrB = false) : isDayB (.tup xs) = false := by
  rw [← strsOf_all] at h
  show (match strsOf xs with
    | some zs => decide (dayOf zs = zs)
    | none => false) = _
  cases q : strsOf xs with
  | none => rfl
  | some zs => rw [q] at h; cases h
theorem eqD_strs2 (zs ys : List Str) : eqD (.lst (zs.map .str)) (.lst (ys.map .str)) = some (decide (zs = ys)) := by
  rw [eqD_strs zs (strs_flat ys), strsOf_map]
  congr 1
  refine Bool.eq_iff_iff.mpr ?_
  simp only [decide_eq_true_eq, Option.some.injEq]
  exact eq_comm
theorem eqD_ones {xs : List D} {p : D → Bool} : eqD (.lst ((xs.filter p).map fun _ => D.int 1)) (.lst []) = some (decide (xs.filter p = [])) := by
  have h : Ds.data ((xs.filter p).map fun _ => D.int 1) = true ∧ PyData.depthAll (Ds.toP ((xs.filter p).map fun _ => D.int 1)) = 0 := by
    generalize xs.filter p = ys
    induction ys with
    | nil => exact ⟨rfl, rfl⟩
    | cons y ys ih =>
      refine ⟨by rw [List.map_cons, Ds.data, ih.1]; rfl, ?_⟩
      rw [List.map_cons, Ds.toP, PyData.depthAll, ih.2]
      rfl
  unfold eqD
  rw [if_pos (by simp [D.data, h.1, Ds.data, D.toP, PyData.depth, h.2, Ds.toP, PyData.depthAll])]
  congr 1
  cases xs.filter p <;> simp [D.toP, Ds.toP, PyData.eqv, PyData.eqvAll]
theorem filter_none {α : Type} {p : α → Bool} {xs : List α} : decide (xs.filter (fun x => !p x) = []) = xs.all p := by
  refine Bool.eq_iff_iff.mpr ?_
  rw [decide_eq_true_eq, List.filter_eq_nil_iff, List.all_eq_true]
  simp
theorem isi_str {n : Nat} {x : D} (h : vOk n x = true) : isiD tyStr.T x = some (.bl (isStrB x)) := by
  cases x <;> first | rfl | (cases n <;> cases h)
def isTupB : D → Bool
  | .tup _ => true
  | _ => false
theorem isi_tup {n : Nat} {x : D} (h : vOk n x = true) : isiD tyTuple.T x = some (.bl (isTupB x)) := by
  cases x <;> first | rfl | (cases n <;> cases h)
/-- the place of a kind -/
def ixk (k : Str) : Nat := (ixStr k k6).getD 0
theorem ix_kind : ∀ k ∈ k6, ixStr k k6 = some (ixk k) ∧ ixk k < 6 := by decide +kernel
theorem index_kind {k : Str} (h : k ∈ k6) : indexD (.lst (k6.map .str)) (.str k) = some (.int (ixk k : Nat)) := by
  show (strsOf (k6.map .str)).bind (fun zs => (ixStr k zs).map fun (j : Nat) => D.int (j : Nat)) = _
  rw [show strsOf (k6.map .str) = some k6 from rfl]
  show (ixStr k k6).map (fun (j : Nat) => D.int (j : Nat)) = _
  rw [(ix_kind k h).1]
  rfl
theorem mem_dayOf {zs : List Str} {k : Str} : k ∈ dayOf zs ↔ k ∈ k6 ∧ k ∈ zs := by
  unfold dayOf
  rw [List.mem_filter, decide_eq_true_eq]
theorem dayOf_is (zs : List Str) : (dayOf zs).Sublist k6 := List.filter_sublist
/-- ascending -/
def ascB : List Int → Bool
  | a :: b :: r => decide (a < b) && ascB (b :: r)
  | _ => true
theorem cutL_tail {α : Type} (xs : List α) : cutL xs (some 1) none = xs.drop 1 := by
  unfold cutL
  cases xs with
  | nil => rfl
  | cons x xs => simp [HT.sIx]
theorem asc_zip : ∀ is : List Int, ∃ bs : List Bool, (zipD (is.map .int) ((is.map D.int).drop 1)).map (fun d => match d with | .tup [.int a, .int b] => D.bl (decide (a < b)) | _ => .non) = bs.map .bl ∧ bs.all id = ascB is
  | [] => ⟨[], rfl, rfl⟩
  | [a] => ⟨[], rfl, rfl⟩
  | a :: b :: r => by
    obtain ⟨bs, h1, h2⟩ := asc_zip (b :: r)
    refine ⟨decide (a < b) :: bs, ?_, ?_⟩
    · refine Eq.trans (?_ : _ = D.bl (decide (a < b)) :: List.map _ (zipD ((b :: r).map .int) (((b :: r).map D.int).drop 1))) (by rw [h1]; rfl)
      rfl
    · rw [List.all_cons, h2]
      rfl
theorem zip_ints : ∀ {xs ys : List Int} {d : D}, d ∈ zipD (xs.map .int) (ys.map .int) → ∃ a b : Int, d = .tup [.int a, .int b]
  | [], _, _, h => by simp [zipD] at h
  | _ :: _, [], _, h => by simp [zipD] at h
  | x :: xs, y :: ys, d, h => by
    rcases List.mem_cons.mp h with z | z
    · exact ⟨x, y, z⟩
    · exact zip_ints z
theorem zipD_len' (xs ys : List D) : (zipD xs ys).length ≤ xs.length := by
  rw [zipD_length]
  exact Nat.min_le_left _ _
theorem asc_den {is : List Int} (hl : is.length ≤ 100000) : d_is_ascending.den [.lst (is.map .int)] = .ok (.bl (ascB is)) [] := by
  apply FO.eq_of
  show FO.Post _ _ _
  rw [fz_den]
  wp_walk using d_is_ascending
  obtain ⟨bs, h1, h2⟩ := asc_zip is
  have ed : (is.map D.int).drop 1 = (is.drop 1).map .int := by rw [List.map_drop]
  refine pz_lcP (ρ1 := [.v (.lst (is.map .int)), .n, .n]) (ds := zipD (is.map .int) ((is.map D.int).drop 1)) (fun _ => true) (fun d => match d with | .tup [.int a, .int b] => D.bl (decide (a < b)) | _ => .non) (fun d => match d with | .tup [x, y] => [.v (.lst (is.map .int)), .v x, .v y] | _ => []) ?_ rfl ?_ (fun d hd => ?_) (fun d hd => ?_) (fun d hd => ?_) rfl (fun d hd => ?_) (fun d hd _ => ?_) ?_
  · have : sliD (.lst (is.map D.int)) (some 1) none = some (.lst ((is.map D.int).drop 1)) := by
      show some (D.lst (cutL (is.map D.int) (some 1) none)) = _
      rw [cutL_tail]
    simp [dVar, this, zipsD]
  · have := zipD_len' (is.map D.int) ((is.map D.int).drop 1)
    rw [List.length_map] at this
    show _ ≤ 16777216
    omega
  · rw [ed] at hd
    obtain ⟨a, b, rfl⟩ := zip_ints hd
    rfl
  · rw [ed] at hd
    obtain ⟨a, b, rfl⟩ := zip_ints hd
    rfl
  · rw [ed] at hd
    obtain ⟨a, b, rfl⟩ := zip_ints hd
    rfl
  · wp_walk
  · rw [ed] at hd
    obtain ⟨a, b, rfl⟩ := zip_ints hd
    wp_walk
  · have ft : ∀ l : List D, l.filter (fun _ => true) = l := fun l => List.filter_eq_self.mpr fun _ _ => rfl
    wp_walk using ft, h1, blsOf_map, h2
theorem index_kT {k : Str} (h : k ∈ k6) : indexD (.tup gl_KINDS) (.str k) = some (.int (ixk k : Nat)) := index_kind h
theorem ixk_inj : ∀ a ∈ k6, ∀ b ∈ k6, ixk a < ixk b ∨ a = b ∨ ixk b < ixk a := by decide +kernel
theorem sub_asc : ∀ (l zs : List Str), zs.Sublist l → (∀ is, is = l.map (fun k => (ixk k : Int)) → is.Pairwise (· < ·)) → (zs.map fun k => (ixk k : Int)).Pairwise (· < ·) := fun l zs h g => (g _ rfl).sublist (h.map _)
theorem asc_of_pw : ∀ {is : List Int}, is.Pairwise (· < ·) → ascB is = true
  | [], _ => rfl
  | [a], _ => rfl
  | a :: b :: r, h => by
    rw [List.pairwise_cons] at h
    show (decide (a < b) && ascB (b :: r)) = true
    rw [asc_of_pw h.2, decide_eq_true (h.1 b List.mem_cons_self)]
    rfl
theorem pw_of_asc : ∀ {is : List Int}, ascB is = true → is.Pairwise (· < ·)
  | [], _ => .nil
  | [a], _ => by simp
  | a :: b :: r, h => by
    have h : (decide (a < b) && ascB (b :: r)) = true := h
    rw [Bool.and_eq_true, decide_eq_true_eq] at h
    have ih := pw_of_asc h.2
    rw [List.pairwise_cons]
    refine ⟨fun c hc => ?_, ih⟩
    rcases List.mem_cons.mp hc with z | z
    · rw [z]; exact h.1
    · have := (List.pairwise_cons.mp ih).1 c z
      omega
theorem pw6 : (k6.map fun k => (ixk k : Int)).Pairwise (· < ·) := by decide +kernel
/-- two ascending rows with the same things are one -/
theorem asc_ext : ∀ {xs ys : List Int}, xs.Pairwise (· < ·) → ys.Pairwise (· < ·) → (∀ i, i ∈ xs ↔ i ∈ ys) → xs = ys
  | [], [], _, _, _ => rfl
  | [], y :: ys, _, _, h => nomatch (h y).mpr List.mem_cons_self
  | x :: xs, [], _, _, h => nomatch (h x).mp List.mem_cons_self
  | x :: xs, y :: ys, h1, h2, h => by
    rw [List.pairwise_cons] at h1 h2
    have e : x = y := by
      rcases List.mem_cons.mp ((h x).mp List.mem_cons_self) with z | z
      · exact z
      · rcases List.mem_cons.mp ((h y).mpr List.mem_cons_self) with w | w
        · exact w.symm
        · have a := h1.1 y w
          have b := h2.1 x z
          omega
    subst e
    rw [asc_ext h1.2 h2.2 fun i => ?_]
    constructor
    · intro hi
      rcases List.mem_cons.mp ((h i).mp (List.mem_cons_of_mem _ hi)) with z | z
      · have := h1.1 i hi; omega
      · exact z
    · intro hi
      rcases List.mem_cons.mp ((h i).mpr (List.mem_cons_of_mem _ hi)) with z | z
      · have := h2.1 i hi; omega
      · exact z
theorem ixk_eq {a b : Str} (ha : a ∈ k6) (hb : b ∈ k6) (h : ixk a = ixk b) : a = b := by
  rcases ixk_inj a ha b hb with z | z | z
  · omega
  · exact z
  · omega
theorem map_inj_on : ∀ {xs ys : List Str}, (∀ x ∈ xs, x ∈ k6) → (∀ y ∈ ys, y ∈ k6) → (xs.map fun k => (ixk k : Int)) = (ys.map fun k => (ixk k : Int)) → xs = ys
  | [], [], _, _, _ => rfl
  | [], _ :: _, _, _, h => nomatch h
  | _ :: _, [], _, _, h => nomatch h
  | x :: xs, y :: ys, h1, h2, h => by
    rw [List.map_cons, List.map_cons, List.cons.injEq] at h
    rw [ixk_eq (h1 x List.mem_cons_self) (h2 y List.mem_cons_self) (by omega), map_inj_on (fun z hz => h1 z (List.mem_cons_of_mem _ hz)) (fun z hz => h2 z (List.mem_cons_of_mem _ hz)) h.2]
/-- in order and all kinds: a day -/
theorem asc_day {zs : List Str} (h : ∀ z ∈ zs, z ∈ k6) : ascB (zs.map fun k => (ixk k : Int)) = decide (dayOf zs = zs) := by
  refine Bool.eq_iff_iff.mpr ?_
  rw [decide_eq_true_eq]
  constructor
  · intro g
    refine map_inj_on (fun z hz => (mem_dayOf.mp hz).1) h ?_
    refine asc_ext (pw6.sublist ((dayOf_is zs).map _)) (pw_of_asc g) fun i => ?_
    simp only [List.mem_map, mem_dayOf]
    constructor
    · rintro ⟨k, ⟨_, hk⟩, rfl⟩
      exact ⟨k, hk, rfl⟩
    · rintro ⟨k, hk, rfl⟩
      exact ⟨k, ⟨h k hk, hk⟩, rfl⟩
  · intro g
    rw [← g]
    exact asc_of_pw (pw6.sublist ((dayOf_is zs).map _))
def inKB (x : D) : Bool := k6.any fun k => isStr k x
theorem inKB_str (z : Str) : inKB (.str z) = decide (z ∈ k6) := by
  refine Bool.eq_iff_iff.mpr ?_
  unfold inKB
  rw [decide_eq_true_eq, List.any_eq_true]
  constructor
  · rintro ⟨k, hk, e⟩
    rw [of_decide_eq_true e]
    exact hk
  · exact fun h => ⟨z, h, decide_eq_true rfl⟩
theorem one_of_den {n : Nat} {x : D} (h : vOk n x = true) : d_is_one_of.den [x, g_KINDS] = .ok (.bl (inKB x)) [] := by
  apply FO.eq_of
  show FO.Post _ _ _
  rw [fz_den]
  have e : g_KINDS = .tup (k6.map .str) := rfl
  cases x with
  | str z => wp_walk using d_is_one_of, e, inDs_map, inKB_str
  | _ => first | (wp_walk using d_is_one_of, e; rfl) | (cases n <;> cases h)
theorem strs_of_all : ∀ {xs : List D}, xs.all inKB = true → ∃ zs : List Str, xs = zs.map .str ∧ ∀ z ∈ zs, z ∈ k6
  | [], _ => ⟨[], rfl, fun _ h => nomatch h⟩
  | x :: xs, h => by
    rw [List.all_cons, Bool.and_eq_true] at h
    obtain ⟨zs, h1, h2⟩ := strs_of_all h.2
    cases x with
    | str s =>
      have h := h.1
      rw [inKB_str, decide_eq_true_eq] at h
      exact ⟨s :: zs, by rw [h1]; rfl, fun z hz => by rcases List.mem_cons.mp hz with w | w; rw [w]; exact h; exact h2 z w⟩
    | _ => cases h.1
theorem isDay_bad {xs : List D} (h : xs.all inKB = false) : isDayB (.tup xs) = false := by
  cases q : isDayB (.tup xs) with
  | false => rfl
  | true =>
    cases g : xs.all isStrB with
    | false => rw [isDay_not g] at q; cases q
    | true =>
      obtain ⟨zs, rfl⟩ := strs_exist g
      rw [isDay_strs, decide_eq_true_eq] at q
      rw [← h]
      refine Eq.symm (List.all_eq_true.mpr fun x hx => ?_)
      obtain ⟨z, hz, rfl⟩ := List.mem_map.mp hx
      rw [inKB_str, decide_eq_true_eq]
      rw [← q] at hz
      exact (mem_dayOf.mp hz).1
/-- is_day -/
theorem is_day_den {n : Nat} {d : D} (h : vOk n d = true) : d_is_day.den [d] = .ok (.bl (isDayB d)) [] := by
  have hs := size_is
  apply FO.eq_of
  show FO.Post _ _ _
  rw [fz_den]
  cases d with
  | tup xs =>
    obtain ⟨n, rfl, h4, h3⟩ := vOk_of h
    wp_walk using d_is_day
    refine pz_lc1 (ρ1 := [.v (.tup xs), .n]) (ds := xs) (fun _ => true) (fun d => .bl (inKB d)) rfl rfl (by omega) (fun d hd => ?_) (fun d hd _ => ?_) ?_
    · wp_walk
    · wp_walk using one_of_den (h3 d hd)
    · wp_walk using filt_true, bls_map, all_map_id
      cases q : xs.all inKB with
      | false =>
        wp_walk
        rw [isDay_bad q]
      | true =>
        obtain ⟨zs, rfl, hz⟩ := strs_of_all q
        wp_walk
        refine pz_lc1 (ρ1 := [.v (.tup (zs.map .str)), .n]) (ds := zs.map .str) (fun _ => true) (fun d => match d with | .str k => .int (ixk k) | _ => .non) rfl rfl (by omega) (fun d hd => ?_) (fun d hd _ => ?_) ?_
        · wp_walk
        · obtain ⟨k, hk, rfl⟩ := List.mem_map.mp hd
          wp_walk using index_kT (hz k hk)
        · have e : ((zs.map D.str).map fun d => match d with | .str k => D.int (ixk k) | _ => .non) = (zs.map fun k => (ixk k : Int)).map .int := by
            rw [List.map_map, List.map_map]
            rfl
          rw [List.length_map] at h4
          wp_walk using filt_true, e, asc_den (is := zs.map fun k => (ixk k : Int)) (by rw [List.length_map]; omega), asc_day hz, isDay_strs
  | _ => first | (wp_walk using d_is_day; rfl) | (cases n <;> cases h)
def isNilT : D → Bool
  | .tup xs => xs.isEmpty
  | _ => false
theorem eqD_day_nil {d : D} (h : isDayB d = true) : eqD d (.tup []) = some (isNilT d) := by
  cases d with
  | tup xs =>
    cases g : xs.all isStrB with
    | false => rw [isDay_not g] at h; cases h
    | true =>
      obtain ⟨zs, rfl⟩ := strs_exist g
      rw [eqD_tnil (n := 1000) (xs := zs.map .str) ?_]
      · cases zs <;> rfl
      · rw [isDay_strs, decide_eq_true_eq] at h
        have l6 : k6.length = 6 := rfl
        have := (dayOf_is zs).length_le
        rw [h] at this
        exact dOk_mono (by omega) (dOk_strs (by omega))
  | _ => cases h
theorem are_kinds_den {n : Nat} {d : D} (h : vOk n d = true) : d_are_kinds.den [d] = .ok (.bl (kindsB 1 d)) [] := by
  apply FO.eq_of
  show FO.Post _ _ _
  rw [fz_den]
  wp_walk using d_are_kinds, is_day_den h
  cases q : isDayB d with
  | false =>
    wp_walk
    cases d with
    | tup xs => show D.bl false = D.bl (decide (1 ≤ xs.length) && isDayB (.tup xs)); rw [q, Bool.and_false]
    | _ => rfl
  | true =>
    wp_walk using eqD_day_nil q
    cases d with
    | tup xs =>
      show D.bl _ = D.bl (decide (1 ≤ xs.length) && isDayB (.tup xs))
      rw [q, Bool.and_true]
      cases xs <;> simp [isNilT]
    | _ => cases q
/-! ### atoms -/
def numB (lo hi : Int) : D → Bool
  | .int i => decide (lo ≤ i ∧ i ≤ hi)
  | _ => false
def memB (v : D) (x : D) : Bool := match v, x with
  | .tup xs, .str z => xs.any (isStr z)
  | _, _ => false
def itemsB : D → List D
  | .tup xs => xs
  | _ => []
/-- what an atom is -/
def atomB : D → Bool
  | .tup (.str w :: k :: r) => kindsB 1 k && (if w = "ever" then r.isEmpty else if w = "after" then (match r with
      | [b] => kindsB 1 b && (itemsB b).all fun x => !memB k x
      | _ => false) else if w = "within" then (match r with
      | [n] => numB 1 4 n
      | _ => false) else if w = "times" then (match r with
      | [.int m, n] => numB 2 3 (.int m) && numB m 4 n
      | _ => false) else false)
  | _ => false
theorem whole_den {n : Nat} {v : D} (h : vOk n v = true) : d_is_whole.den [v] = .ok (.bl (match v with | .int _ => true | _ => false)) [] := by
  apply FO.eq_of
  show FO.Post _ _ _
  rw [fz_den]
  cases v with
  | _ => first | (wp_walk using d_is_whole; done) | (wp_walk using d_is_whole; rfl) | (cases n <;> cases h)
theorem number_den {n : Nat} {v : D} (h : vOk n v = true) (lo hi : Int) : d_is_number.den [v, .int lo, .int hi] = .ok (.bl (numB lo hi v)) [] := by
  apply FO.eq_of
  show FO.Post _ _ _
  rw [fz_den]
  wp_walk using d_is_number, whole_den h
  cases v with
  | int i =>
    wp_walk
    split
    · rename_i hl
      congr 1
      refine Bool.eq_iff_iff.mpr ?_
      simp only [numB, decide_eq_true_eq, Bool.false_eq_true, false_iff]
      omega
    · rename_i hl
      congr 1
      refine Bool.eq_iff_iff.mpr ?_
      simp only [numB, decide_eq_true_eq]
      omega
  | _ => first | (wp_walk; rfl) | (cases n <;> cases h)
theorem strs_of_kinds {l : Nat} {v : D} (h : kindsB l v = true) : ∃ zs : List Str, v = .tup (zs.map .str) ∧ zs.Sublist k6 := by
  cases v with
  | tup xs =>
    have h : (decide (l ≤ xs.length) && isDayB (.tup xs)) = true := h
    rw [Bool.and_eq_true] at h
    cases g : xs.all isStrB with
    | false => have := h.2; rw [isDay_not g] at this; cases this
    | true =>
      obtain ⟨zs, rfl⟩ := strs_exist g
      have h := h.2
      rw [isDay_strs, decide_eq_true_eq] at h
      exact ⟨zs, rfl, by rw [← h]; exact dayOf_is zs⟩
  | _ => cases h
theorem words4 (w : Str) : w = "ever" ∨ w = "after" ∨ w = "within" ∨ w = "times" ∨ (¬ w = "ever" ∧ ¬ w = "after" ∧ ¬ w = "within" ∧ ¬ w = "times") := by
  by_cases h1 : w = "ever"
  · exact .inl h1
  by_cases h2 : w = "after"
  · exact .inr (.inl h2)
  by_cases h3 : w = "within"
  · exact .inr (.inr (.inl h3))
  by_cases h4 : w = "times"
  · exact .inr (.inr (.inr (.inl h4)))
  · exact .inr (.inr (.inr (.inr ⟨h1, h2, h3, h4⟩)))
theorem inDs_int3 (i x y z : Int) : inDs (.int i) [.int x, .int y, .int z] = some (decide (i = x ∨ i = y ∨ i = z)) := by
  have hd : ∀ j : Int, PyData.eqv (D.toP (.int j)) (D.toP (.int i)) = decide (i = j) := fun j => by
    simp only [D.toP, PyData.eqv]
    by_cases e : i = j
    · subst e; simp
    · simp [e]
      exact fun z => e z.symm
  unfold inDs
  rw [if_pos (by simp [D.data, Ds.data, D.toP, Ds.toP, PyData.depth, PyData.depthAll])]
  congr 1
  simp only [List.any_cons, List.any_nil, hd, Bool.or_false]
  refine Bool.eq_iff_iff.mpr ?_
  simp
theorem gMOST_LAST : g_MOST_LAST = .int 4 := rfl
theorem atomB_str (w : Str) (k : D) (r : List D) : atomB (.tup (.str w :: k :: r)) = (kindsB 1 k && (if w = "ever" then r.isEmpty else if w = "after" then (match r with
          | [b] => kindsB 1 b && (itemsB b).all fun x => !memB k x
          | _ => false) else if w = "within" then (match r with
          | [n] => numB 1 4 n
          | _ => false) else if w = "times" then (match r with
          | [.int m, n] => numB 2 3 (.int m) && numB m 4 n
          | _ => false) else false)) := rfl
theorem atomB_long (x k x1 x2 x3 : D) (r : List D) : atomB (.tup (x :: k :: x1 :: x2 :: x3 :: r)) = false := by
  cases x with
  | str w =>
    rw [atomB_str]
    have : ∀ m : D, (match [m, x2, x3] with | [.int m, n] => numB 2 3 (.int m) && numB m 4 n | _ => false) = false := fun m => by cases m <;> rfl
    cases x1 <;> simp
  | _ => rfl
theorem any_strs (f : Str → Bool) (l : List Str) : ((l.map D.str).map fun d => match d with | .str k => D.bl (f k) | _ => .non) = (l.map f).map .bl := by
  rw [List.map_map, List.map_map]
  rfl
theorem disj2 (zs ys : List Str) : (!ys.any fun z => decide (z ∈ zs)) = (itemsB (.tup (ys.map .str))).all fun x => !memB (.tup (zs.map .str)) x := by
  show _ = (ys.map D.str).all _
  rw [List.all_map, List.not_any_eq_all_not]
  congr 1
  funext y
  show (!decide (y ∈ zs)) = !(zs.map D.str).any (isStr y)
  rw [any_isStr]
/-- is_atom -/
theorem atom_den {n : Nat} {v : D} (h : vOk n v = true) : d_is_atom.den [v] = .ok (.bl (atomB v)) [] := by
  have hs := size_is
  have l6 : k6.length = 6 := rfl
  apply FO.eq_of
  show FO.Post _ _ _
  rw [fz_den]
  cases v with
  | tup xs =>
    obtain ⟨n, rfl, h4, h3⟩ := vOk_of h
    match xs, h3, h4 with
    | [], h3, h4 => wp_walk using d_is_atom, inDs_int3; rfl
    | [x], h3, h4 => wp_walk using d_is_atom, inDs_int3; cases x <;> rfl
    | x :: k :: x1 :: x2 :: x3 :: r, h3, h4 =>
      have c2 : ¬ (((r.length + 1 + 1 + 1 + 1 + 1 : Nat) : Int) = 2 ∨ ((r.length + 1 + 1 + 1 + 1 + 1 : Nat) : Int) = 3 ∨ ((r.length + 1 + 1 + 1 + 1 + 1 : Nat) : Int) = 4) := by omega
      wp_walk using d_is_atom, inDs_int3, c2
      rw [atomB_long]
    | [x, k], h3, h4 =>
      have hx := isi_str (h3 x (by simp))
      have hk := are_kinds_den (h3 k (by simp))
      wp_walk using d_is_atom, inDs_int3, hx
      cases x with
      | str w =>
        have e : isStrB (.str w) = true := rfl
        rw [atomB_str]
        wp_walk using e, hk, eqD_str
        cases q : kindsB 1 k with
        | false => wp_walk
        | true =>
          obtain ⟨zs, rfl, hz⟩ := strs_of_kinds q
          have lz := hz.length_le
          rw [Bool.true_and]
          wp_walk
          rcases words4 w with rfl | rfl | rfl | rfl | ⟨w1, w2, w3, w4⟩
          · wp_walk using eqD_int, eqD_str
          · wp_walk using eqD_int, eqD_str
          · wp_walk using eqD_int, eqD_str
          · wp_walk using eqD_int, eqD_str
          · wp_walk using w1, w2, w3, w4
      | _ => wp_walk; rfl
    | [x, k, x1], h3, h4 =>
      have hx := isi_str (h3 x (by simp))
      have hk := are_kinds_den (h3 k (by simp))
      wp_walk using d_is_atom, inDs_int3, hx
      cases x with
      | str w =>
        have e : isStrB (.str w) = true := rfl
        rw [atomB_str]
        wp_walk using e, hk, eqD_str
        cases q : kindsB 1 k with
        | false => wp_walk
        | true =>
          obtain ⟨zs, rfl, hz⟩ := strs_of_kinds q
          have lz := hz.length_le
          rw [Bool.true_and]
          wp_walk
          rcases words4 w with rfl | rfl | rfl | rfl | ⟨w1, w2, w3, w4⟩
          · wp_walk using eqD_int, eqD_str
          · wp_walk using eqD_int, eqD_str, are_kinds_den (h3 x1 (by simp))
            cases q2 : kindsB 1 x1 with
            | false => wp_walk
            | true =>
              obtain ⟨ys, rfl, hy⟩ := strs_of_kinds q2
              have ly := hy.length_le
              wp_walk
              refine pz_lc1 (ρ1 := [.v (.tup [.str "after", .tup (zs.map .str), .tup (ys.map .str)]), .n]) (ds := ys.map .str) (fun _ => true) (fun x => match x with | .str z => .bl (decide (z ∈ zs)) | _ => .non) ?_ rfl (by rw [List.length_map]; omega) (fun x hx => ?_) (fun x hx _ => ?_) ?_
              · rfl
              · wp_walk
              · obtain ⟨z, hz, rfl⟩ := List.mem_map.mp hx
                wp_walk using inDs_map
              · wp_walk using filt_true, any_strs (fun z => decide (z ∈ zs)), blsOf_map, any_map_id
                rw [q2, Bool.true_and, disj2]
          · wp_walk using eqD_int, eqD_str, gMOST_LAST, number_den (h3 x1 (by simp))
          · wp_walk using eqD_int, eqD_str
          · wp_walk using w1, w2, w3, w4
      | _ => wp_walk; rfl
    | [x, k, x1, x2], h3, h4 =>
      have hx := isi_str (h3 x (by simp))
      have hk := are_kinds_den (h3 k (by simp))
      wp_walk using d_is_atom, inDs_int3, hx
      cases x with
      | str w =>
        have e : isStrB (.str w) = true := rfl
        rw [atomB_str]
        wp_walk using e, hk, eqD_str
        cases q : kindsB 1 k with
        | false => wp_walk
        | true =>
          obtain ⟨zs, rfl, hz⟩ := strs_of_kinds q
          have lz := hz.length_le
          rw [Bool.true_and]
          wp_walk
          rcases words4 w with rfl | rfl | rfl | rfl | ⟨w1, w2, w3, w4⟩
          · wp_walk using eqD_int, eqD_str
          · wp_walk using eqD_int, eqD_str
          · wp_walk using eqD_int, eqD_str
          · wp_walk using eqD_int, eqD_str, number_den (h3 x1 (by simp))
            cases x1 with
            | int m =>
              show (if numB 2 3 (.int m) = true then _ else _)
              cases q2 : numB 2 3 (.int m) with
              | false =>
                wp_walk
                show D.bl false = D.bl (numB 2 3 (.int m) && numB m 4 x2)
                rw [q2, Bool.false_and]
              | true =>
                wp_walk using gMOST_LAST, number_den (h3 x2 (by simp))
                show D.bl (numB m 4 x2) = D.bl (numB 2 3 (.int m) && numB m 4 x2)
                rw [q2, Bool.true_and]
            | _ => rfl
          · wp_walk using w1, w2, w3, w4
      | _ => wp_walk; rfl
  | _ => first | (wp_walk using d_is_atom; rfl) | (cases n <;> cases h)

end K02
set_option Elab.async false
set_option maxRecDepth 100000
set_option maxHeartbeats 4000000
namespace K02
open PySem PySem.Spec L2 Ev
local macro_rules
  | `(tactic| wp_walk) => `(tactic| simp -dsimp only [↓w_den_int, ↓w_den_str, ↓w_den_bl, ↓w_den_non, ↓w_den_glo, ↓w_den_dict0, ↓w_den_lam, ↓w_con_at, ↓w_as_nil, ↓w_as_cons, ↓w_den_tup, ↓w_den_lst, ↓w_den_bin, ↓w_den_neg, ↓w_den_cmp, ↓w_tst_cmp, ↓w_den_chn, ↓w_tst_chn, ↓w_den_idx, ↓w_den_sli, ↓w_po_none_at, ↓w_po_some_at, ↓w_den_revT, ↓w_den_bfn, ↓w_den_tfn, ↓w_den_isi, ↓w_den_oidx, ↓w_den_olen, ↓w_den_new, ↓w_den_call, ↓w_den_call0, ↓w_den_callf, ↓w_den_callkw, ↓w_den_callv, ↓w_den_and, ↓w_den_or, ↓w_tst_and, ↓w_tst_or, ↓w_one_dAnd, ↓w_one_dOr, ↓w_one_tAnd, ↓w_one_tOr, ↓w_cons_dAnd, ↓w_cons_dOr, ↓w_cons_tAnd, ↓w_cons_tOr, ↓w_den_not, ↓w_tst_not, ↓w_den_ife, ↓w_den_repr, ↓w_tst_repr, ↓w_tst_var, ↓w_tst_isi, ↓w_tst_call, ↓w_tst_callv, ↓w_tst_bfn, ↓w_toD_at, ↓w_ar_nil, ↓w_ar_cons, ↓w_ar_own, ↓w_sr_val, ↓w_sr_enum, ↓w_sr_zip, ↓w_sr_range1, ↓w_cs_nil, ↓w_cs_one, ↓w_fx_lst, ↓w_fx_lc, ↓w_fx_call, ↓w_fx_listRg1, ↓w_den_gindex, ↓w_den_lindex, ↓w_bl_nil, ↓w_bl_cons, ↓w_sm_ret, ↓w_sm_retF, ↓w_sm_retO, ↓w_sm_ifs, ↓w_sm_for, ↓w_sm_set, ↓w_sm_asg, ↓w_sm_frz, ↓w_sm_parM, ↓w_sm_own, ↓w_sm_app, ↓w_sm_stuck, ↓w_ms_nil, ↓w_ms_v, ↓w_ms_f, ↓pz_ok, ↓pz_er, ↓pz_no, ↓pz_bind, ↓pz_ite, ↓sz_ite, ↓fz_ite, ↓sz_nx, ↓sz_bk, ↓sz_ct, ↓sz_rt, ↓sz_rf, ↓sz_er, ↓sz_no, ↓sz_after, ↓sz_next, ↓fz_ok, ↓fz_er, ↓fz_no, ↓pz_lift, ↓pz_var, ↓pz_dvar, ↓pz_dcon, ↓pz_dRepr, ↓pz_oidxD, ↓pz_olenD, ↓pz_callK, ↓pz_callfK, ↓pz_callF, ↓pz_callD, ↓pz_kwD, ↓pz_callvD, ↓sz_ownD, ↓sz_appD, ↓sz_retO, ↓sz_expr, ↓pz_kxnil, ↓pz_kxcons, ↓fz_cden, ↓oz_map, ↓oz_bind, ↓oz_if, ↓oz_ite, ↓pz_dChn, ↓pz_pop, ↓pz_oinD, ↓w_oin_den, ↓w_oin_tst, ↓w_fx_add, ↓w_fx_list, ↓w_fx_lc2, ↓w_den_didx, ↓w_den_lcount, ↓w_den_dc, if_F, wn_nx, wn_bk, wn_ct, wn_rt, wn_rf, wn_er, lp_nx, lp_bk, lp_ct, lp_rt, lp_rf, lp_er, df_nx, df_rt, df_rf, df_er, oz_some, oz_none, isO_n, isO_v, isO_o, slV_z, slV_s, slO_z, slO_s, slN_z, slN_s, isOwn_z, isOwn_s, lstAt_sl, nameD_sl, frzD_sl, fill_nil, fill_cons, put_nil, put_cons, outsE_nil, outsE_cons, kx_ks, kx_ks0, sem_den, sem_io, sem_fresh, sem_ar, csem_den, csem_io, csem_fresh, csem_ar, ar_nil_own, ar_cons_own, ar_own_own, tg_name, tg_tup, tg_sub, tgs_nil, tgs_cons, g_len, g_abs, g_max, g_min, g_divmod, g_all, g_any, g_sum, g_int, g_list, g_tuple, up, nilD, consD, putM, startE, start0, wipeE, noOwn, okF, e_lenD_tup, e_lenD_lst, e_lenD_scr, e_absD_int, e_maxD_int, e_minD_int, e_maxD_lst, e_minD_lst, e_divmodD_int, e_allD_lst, e_anyD_lst, e_sumD_lst, e_intD_int, e_intD_bl, e_listD_lst, e_listD_tup, e_listD_scr, e_tupleD_lst, e_tupleD_tup, e_idxD_tup, e_idxD_lst, e_idxD_scr, e_sliD_tup, e_sliD_lst, e_sliD_scr, e_revTD_tup, e_itemsOf_tup, e_itemsOf_lst, e_itemsOf_scr, e_itemsOf_str, e_enumD_lst, e_enumD_tup, e_zipsD_lst, e_zipsD_tup, e_r1D_int, e_ltD_int, e_ltD_str, e_leD_int, e_isNon_non, e_isNon_bl, e_isNon_int, e_isNon_str, e_isNon_tup, e_isNon_lst, e_isNon_dic, e_isD_bl, e_inD_strt, e_inD_strl, e_inD_intt, e_inD_intl, e_opAdd_int, e_opAdd_str, e_opAdd_tup, e_opAdd_lst, e_opSub_int, e_opMul_int, e_opFdiv_int, e_opMod_int, e_truth_non, e_truth_bl, e_truth_int, e_truth_tup, e_truth_lst, e_truth_dic, e_isL_lst, e_isLst_lst, e_mapB_def, e_cmpD_Lt, e_cmpD_Gt, e_cmpD_LtE, e_cmpD_GtE, e_cmpD_Eq, e_cmpD_NotEq, e_cmpD_In, e_cmpD_NotIn, e_cmpD_Is, e_cmpD_IsNot, e_binD_Add, e_binD_Sub, e_binD_Mult, e_binD_FloorDiv, e_binD_Mod, e_binD_Pow, e_isD_non, e_isi_tyInt_non, e_isi_tyInt_bl, e_isi_tyInt_int, e_isi_tyInt_str, e_isi_tyInt_tup, e_isi_tyInt_lst, e_isi_tyInt_scr, e_isi_tyInt_dic, e_isi_tyBool_non, e_isi_tyBool_bl, e_isi_tyBool_int, e_isi_tyBool_str, e_isi_tyBool_tup, e_isi_tyBool_lst, e_isi_tyBool_scr, e_isi_tyBool_dic, e_isi_tyStr_non, e_isi_tyStr_bl, e_isi_tyStr_int, e_isi_tyStr_str, e_isi_tyStr_tup, e_isi_tyStr_lst, e_isi_tyStr_scr, e_isi_tyStr_dic, e_isi_tyTuple_non, e_isi_tyTuple_bl, e_isi_tyTuple_int, e_isi_tyTuple_str, e_isi_tyTuple_tup, e_isi_tyTuple_lst, e_isi_tyTuple_scr, e_isi_tyTuple_dic, e_isi_tyList_non, e_isi_tyList_bl, e_isi_tyList_int, e_isi_tyList_str, e_isi_tyList_tup, e_isi_tyList_lst, e_isi_tyList_scr, e_isi_tyList_dic, e_isi_tyDict_non, e_isi_tyDict_bl, e_isi_tyDict_int, e_isi_tyDict_str, e_isi_tyDict_tup, e_isi_tyDict_lst, e_isi_tyDict_scr, e_isi_tyDict_dic, e_tup_n, List.set_cons_zero, List.set_cons_succ, List.set_nil, List.length_cons, List.length_nil, List.length_map, List.length_append, List.contains_nil, List.contains_cons, List.replicate_succ, List.replicate_zero, List.cons_append, List.nil_append, List.append_nil, List.map_cons, List.map_nil, List.all_cons, List.all_nil, List.lookup_cons, List.isEmpty_nil, List.isEmpty_cons, Option.getD_some, Option.getD_none, Option.map_some, Option.map_none, Option.bind_some, Option.bind_none, List.getD_cons_zero, List.getD_cons_succ, if_true, if_false, ite_true, ite_false, Bool.false_eq_true, reduceIte, reduceCtorEq, Bool.not_true, Bool.not_false, Bool.not_not, Bool.and_true, Bool.true_and, Bool.and_false, Bool.false_and, Bool.or_true, Bool.true_or, Bool.or_false, Bool.false_or, and_true, true_and, and_false, false_and, and_self, decide_true, decide_false, decide_eq_true_eq, Bool.not_eq_true', Bool.not_eq_eq_eq_not, Nat.zero_add, Nat.add_zero, Nat.reduceAdd, Nat.reduceSub, Nat.reduceLT, Nat.reduceLeDiff, Nat.reduceEqDiff, Nat.reduceBEq, Int.reduceLT, Int.reduceLE, Int.reduceEq, beq_self_eq_true, ne_eq, not_true_eq_false, not_false_eq_true, eq_self, Nat.zero_le, le_size, lt_size, fr_d__law_draw, ar_d__law_draw, io_d__law_draw, fr_d__law_kinds, ar_d__law_kinds, io_d__law_kinds, fr_d__law_of, ar_d__law_of, io_d__law_of, fr_d__law_unlike, ar_d__law_unlike, io_d__law_unlike, fr_d__law_history, ar_d__law_history, io_d__law_history, fr_d__law_atom_holds, ar_d__law_atom_holds, io_d__law_atom_holds, fr_d__law_is, ar_d__law_is, io_d__law_is, fr_d__law_some, ar_d__law_some, io_d__law_some, fr_d__law_atom, ar_d__law_atom, io_d__law_atom, fr_d__law_atoms, ar_d__law_atoms, io_d__law_atoms, fr_d__law_rule, ar_d__law_rule, io_d__law_rule, fr_d_is_ascending, ar_d_is_ascending, io_d_is_ascending, fr_d_is_one_of, ar_d_is_one_of, io_d_is_one_of, fr_d_is_day, ar_d_is_day, io_d_is_day, fr_d_wrong_at, ar_d_wrong_at, io_d_wrong_at, fr_d_wrong_day, ar_d_wrong_day, io_d_wrong_day, fr_d_check_history, ar_d_check_history, io_d_check_history, fr_d_trees_in, ar_d_trees_in, io_d_trees_in, fr_d_atoms_of, ar_d_atoms_of, io_d_atoms_of, fr_d_last_of, ar_d_last_of, io_d_last_of, fr_d_are_kinds, ar_d_are_kinds, io_d_are_kinds, fr_d_is_whole, ar_d_is_whole, io_d_is_whole, fr_d_is_number, ar_d_is_number, io_d_is_number, fr_d_is_atom, ar_d_is_atom, io_d_is_atom, fr_d_is_tuple_of, ar_d_is_tuple_of, io_d_is_tuple_of, fr_d_is_rule, ar_d_is_rule, io_d_is_rule, fr_d_check_rule, ar_d_check_rule, io_d_check_rule, fr_d_has_some, ar_d_has_some, io_d_has_some, fr_d_is_last, ar_d_is_last, io_d_is_last, fr_d_atom_holds, ar_d_atom_holds, io_d_atom_holds, fr_d_holds_for, ar_d_holds_for, io_d_holds_for, fr_d_holds, ar_d_holds, io_d_holds, fr_d__law_right, ar_d__law_right, io_d__law_right, fr_d__law_well, ar_d__law_well, io_d__law_well, fr_d_law, ar_d_law, io_d_law, fr_m__law_holds, ar_m__law_holds, io_m__law_holds, fs__law_holds, fa__law_holds, fd__law_holds, fr_m__law_nodes, ar_m__law_nodes, io_m__law_nodes, fs__law_nodes, fa__law_nodes, fd__law_nodes, fr_m__law_tree, ar_m__law_tree, io_m__law_tree, fs__law_tree, fa__law_tree, fd__law_tree, fr_m_all_atoms, ar_m_all_atoms, io_m_all_atoms, fs_all_atoms, fa_all_atoms, fd_all_atoms, fr_m_nodes_in, ar_m_nodes_in, io_m_nodes_in, fs_nodes_in, fa_nodes_in, fd_nodes_in, fr_m_holds_by, ar_m_holds_by, io_m_holds_by, fs_holds_by, fa_holds_by, fd_holds_by, ar_c_0, e_countD, e_lookD, e_catL, e_listL_lst, e_listL_tup, if_or, if_and, nc_0, nc_1, nc_2, nc_3, nc_4, nc_5, nc_6, nc_7, nc_8, nc_9, nc_10, nc_11, nc_12, or_true, true_or, or_false, false_or, or_self, nw_ever_after, nw_ever_within, nw_ever_times, nw_ever_not, nw_ever_all, nw_ever_any, nw_after_ever, nw_after_within, nw_after_times, nw_after_not, nw_after_all, nw_after_any, nw_within_ever, nw_within_after, nw_within_times, nw_within_not, nw_within_all, nw_within_any, nw_times_ever, nw_times_after, nw_times_within, nw_times_not, nw_times_all, nw_times_any, nw_not_ever, nw_not_after, nw_not_within, nw_not_times, nw_not_all, nw_not_any, nw_all_ever, nw_all_after, nw_all_within, nw_all_times, nw_all_not, nw_all_any, nw_any_ever, nw_any_after, nw_any_within, nw_any_times, nw_any_not, nw_any_all, subD_int, subD_var, ixN_0, ixN_1, ixN_2, at0, at1, at2, at3])
  | `(tactic| wp_walk using $ts,*) => `(tactic| simp -dsimp only [↓w_den_int, ↓w_den_str, ↓w_den_bl, ↓w_den_non, ↓w_den_glo, ↓w_den_dict0, ↓w_den_lam, ↓w_con_at, ↓w_as_nil, ↓w_as_cons, ↓w_den_tup, ↓w_den_lst, ↓w_den_bin, ↓w_den_neg, ↓w_den_cmp, ↓w_tst_cmp, ↓w_den_chn, ↓w_tst_chn, ↓w_den_idx, ↓w_den_sli, ↓w_po_none_at, ↓w_po_some_at, ↓w_den_revT, ↓w_den_bfn, ↓w_den_tfn, ↓w_den_isi, ↓w_den_oidx, ↓w_den_olen, ↓w_den_new, ↓w_den_call, ↓w_den_call0, ↓w_den_callf, ↓w_den_callkw, ↓w_den_callv, ↓w_den_and, ↓w_den_or, ↓w_tst_and, ↓w_tst_or, ↓w_one_dAnd, ↓w_one_dOr, ↓w_one_tAnd, ↓w_one_tOr, ↓w_cons_dAnd, ↓w_cons_dOr, ↓w_cons_tAnd, ↓w_cons_tOr, ↓w_den_not, ↓w_tst_not, ↓w_den_ife, ↓w_den_repr, ↓w_tst_repr, ↓w_tst_var, ↓w_tst_isi, ↓w_tst_call, ↓w_tst_callv, ↓w_tst_bfn, ↓w_toD_at, ↓w_ar_nil, ↓w_ar_cons, ↓w_ar_own, ↓w_sr_val, ↓w_sr_enum, ↓w_sr_zip, ↓w_sr_range1, ↓w_cs_nil, ↓w_cs_one, ↓w_fx_lst, ↓w_fx_lc, ↓w_fx_call, ↓w_fx_listRg1, ↓w_den_gindex, ↓w_den_lindex, ↓w_bl_nil, ↓w_bl_cons, ↓w_sm_ret, ↓w_sm_retF, ↓w_sm_retO, ↓w_sm_ifs, ↓w_sm_for, ↓w_sm_set, ↓w_sm_asg, ↓w_sm_frz, ↓w_sm_parM, ↓w_sm_own, ↓w_sm_app, ↓w_sm_stuck, ↓w_ms_nil, ↓w_ms_v, ↓w_ms_f, ↓pz_ok, ↓pz_er, ↓pz_no, ↓pz_bind, ↓pz_ite, ↓sz_ite, ↓fz_ite, ↓sz_nx, ↓sz_bk, ↓sz_ct, ↓sz_rt, ↓sz_rf, ↓sz_er, ↓sz_no, ↓sz_after, ↓sz_next, ↓fz_ok, ↓fz_er, ↓fz_no, ↓pz_lift, ↓pz_var, ↓pz_dvar, ↓pz_dcon, ↓pz_dRepr, ↓pz_oidxD, ↓pz_olenD, ↓pz_callK, ↓pz_callfK, ↓pz_callF, ↓pz_callD, ↓pz_kwD, ↓pz_callvD, ↓sz_ownD, ↓sz_appD, ↓sz_retO, ↓sz_expr, ↓pz_kxnil, ↓pz_kxcons, ↓fz_cden, ↓oz_map, ↓oz_bind, ↓oz_if, ↓oz_ite, ↓pz_dChn, ↓pz_pop, ↓pz_oinD, ↓w_oin_den, ↓w_oin_tst, ↓w_fx_add, ↓w_fx_list, ↓w_fx_lc2, ↓w_den_didx, ↓w_den_lcount, ↓w_den_dc, if_F, wn_nx, wn_bk, wn_ct, wn_rt, wn_rf, wn_er, lp_nx, lp_bk, lp_ct, lp_rt, lp_rf, lp_er, df_nx, df_rt, df_rf, df_er, oz_some, oz_none, isO_n, isO_v, isO_o, slV_z, slV_s, slO_z, slO_s, slN_z, slN_s, isOwn_z, isOwn_s, lstAt_sl, nameD_sl, frzD_sl, fill_nil, fill_cons, put_nil, put_cons, outsE_nil, outsE_cons, kx_ks, kx_ks0, sem_den, sem_io, sem_fresh, sem_ar, csem_den, csem_io, csem_fresh, csem_ar, ar_nil_own, ar_cons_own, ar_own_own, tg_name, tg_tup, tg_sub, tgs_nil, tgs_cons, g_len, g_abs, g_max, g_min, g_divmod, g_all, g_any, g_sum, g_int, g_list, g_tuple, up, nilD, consD, putM, startE, start0, wipeE, noOwn, okF, e_lenD_tup, e_lenD_lst, e_lenD_scr, e_absD_int, e_maxD_int, e_minD_int, e_maxD_lst, e_minD_lst, e_divmodD_int, e_allD_lst, e_anyD_lst, e_sumD_lst, e_intD_int, e_intD_bl, e_listD_lst, e_listD_tup, e_listD_scr, e_tupleD_lst, e_tupleD_tup, e_idxD_tup, e_idxD_lst, e_idxD_scr, e_sliD_tup, e_sliD_lst, e_sliD_scr, e_revTD_tup, e_itemsOf_tup, e_itemsOf_lst, e_itemsOf_scr, e_itemsOf_str, e_enumD_lst, e_enumD_tup, e_zipsD_lst, e_zipsD_tup, e_r1D_int, e_ltD_int, e_ltD_str, e_leD_int, e_isNon_non, e_isNon_bl, e_isNon_int, e_isNon_str, e_isNon_tup, e_isNon_lst, e_isNon_dic, e_isD_bl, e_inD_strt, e_inD_strl, e_inD_intt, e_inD_intl, e_opAdd_int, e_opAdd_str, e_opAdd_tup, e_opAdd_lst, e_opSub_int, e_opMul_int, e_opFdiv_int, e_opMod_int, e_truth_non, e_truth_bl, e_truth_int, e_truth_tup, e_truth_lst, e_truth_dic, e_isL_lst, e_isLst_lst, e_mapB_def, e_cmpD_Lt, e_cmpD_Gt, e_cmpD_LtE, e_cmpD_GtE, e_cmpD_Eq, e_cmpD_NotEq, e_cmpD_In, e_cmpD_NotIn, e_cmpD_Is, e_cmpD_IsNot, e_binD_Add, e_binD_Sub, e_binD_Mult, e_binD_FloorDiv, e_binD_Mod, e_binD_Pow, e_isD_non, e_isi_tyInt_non, e_isi_tyInt_bl, e_isi_tyInt_int, e_isi_tyInt_str, e_isi_tyInt_tup, e_isi_tyInt_lst, e_isi_tyInt_scr, e_isi_tyInt_dic, e_isi_tyBool_non, e_isi_tyBool_bl, e_isi_tyBool_int, e_isi_tyBool_str, e_isi_tyBool_tup, e_isi_tyBool_lst, e_isi_tyBool_scr, e_isi_tyBool_dic, e_isi_tyStr_non, e_isi_tyStr_bl, e_isi_tyStr_int, e_isi_tyStr_str, e_isi_tyStr_tup, e_isi_tyStr_lst, e_isi_tyStr_scr, e_isi_tyStr_dic, e_isi_tyTuple_non, e_isi_tyTuple_bl, e_isi_tyTuple_int, e_isi_tyTuple_str, e_isi_tyTuple_tup, e_isi_tyTuple_lst, e_isi_tyTuple_scr, e_isi_tyTuple_dic, e_isi_tyList_non, e_isi_tyList_bl, e_isi_tyList_int, e_isi_tyList_str, e_isi_tyList_tup, e_isi_tyList_lst, e_isi_tyList_scr, e_isi_tyList_dic, e_isi_tyDict_non, e_isi_tyDict_bl, e_isi_tyDict_int, e_isi_tyDict_str, e_isi_tyDict_tup, e_isi_tyDict_lst, e_isi_tyDict_scr, e_isi_tyDict_dic, e_tup_n, List.set_cons_zero, List.set_cons_succ, List.set_nil, List.length_cons, List.length_nil, List.length_map, List.length_append, List.contains_nil, List.contains_cons, List.replicate_succ, List.replicate_zero, List.cons_append, List.nil_append, List.append_nil, List.map_cons, List.map_nil, List.all_cons, List.all_nil, List.lookup_cons, List.isEmpty_nil, List.isEmpty_cons, Option.getD_some, Option.getD_none, Option.map_some, Option.map_none, Option.bind_some, Option.bind_none, List.getD_cons_zero, List.getD_cons_succ, if_true, if_false, ite_true, ite_false, Bool.false_eq_true, reduceIte, reduceCtorEq, Bool.not_true, Bool.not_false, Bool.not_not, Bool.and_true, Bool.true_and, Bool.and_false, Bool.false_and, Bool.or_true, Bool.true_or, Bool.or_false, Bool.false_or, and_true, true_and, and_false, false_and, and_self, decide_true, decide_false, decide_eq_true_eq, Bool.not_eq_true', Bool.not_eq_eq_eq_not, Nat.zero_add, Nat.add_zero, Nat.reduceAdd, Nat.reduceSub, Nat.reduceLT, Nat.reduceLeDiff, Nat.reduceEqDiff, Nat.reduceBEq, Int.reduceLT, Int.reduceLE, Int.reduceEq, beq_self_eq_true, ne_eq, not_true_eq_false, not_false_eq_true, eq_self, Nat.zero_le, le_size, lt_size, fr_d__law_draw, ar_d__law_draw, io_d__law_draw, fr_d__law_kinds, ar_d__law_kinds, io_d__law_kinds, fr_d__law_of, ar_d__law_of, io_d__law_of, fr_d__law_unlike, ar_d__law_unlike, io_d__law_unlike, fr_d__law_history, ar_d__law_history, io_d__law_history, fr_d__law_atom_holds, ar_d__law_atom_holds, io_d__law_atom_holds, fr_d__law_is, ar_d__law_is, io_d__law_is, fr_d__law_some, ar_d__law_some, io_d__law_some, fr_d__law_atom, ar_d__law_atom, io_d__law_atom, fr_d__law_atoms, ar_d__law_atoms, io_d__law_atoms, fr_d__law_rule, ar_d__law_rule, io_d__law_rule, fr_d_is_ascending, ar_d_is_ascending, io_d_is_ascending, fr_d_is_one_of, ar_d_is_one_of, io_d_is_one_of, fr_d_is_day, ar_d_is_day, io_d_is_day, fr_d_wrong_at, ar_d_wrong_at, io_d_wrong_at, fr_d_wrong_day, ar_d_wrong_day, io_d_wrong_day, fr_d_check_history, ar_d_check_history, io_d_check_history, fr_d_trees_in, ar_d_trees_in, io_d_trees_in, fr_d_atoms_of, ar_d_atoms_of, io_d_atoms_of, fr_d_last_of, ar_d_last_of, io_d_last_of, fr_d_are_kinds, ar_d_are_kinds, io_d_are_kinds, fr_d_is_whole, ar_d_is_whole, io_d_is_whole, fr_d_is_number, ar_d_is_number, io_d_is_number, fr_d_is_atom, ar_d_is_atom, io_d_is_atom, fr_d_is_tuple_of, ar_d_is_tuple_of, io_d_is_tuple_of, fr_d_is_rule, ar_d_is_rule, io_d_is_rule, fr_d_check_rule, ar_d_check_rule, io_d_check_rule, fr_d_has_some, ar_d_has_some, io_d_has_some, fr_d_is_last, ar_d_is_last, io_d_is_last, fr_d_atom_holds, ar_d_atom_holds, io_d_atom_holds, fr_d_holds_for, ar_d_holds_for, io_d_holds_for, fr_d_holds, ar_d_holds, io_d_holds, fr_d__law_right, ar_d__law_right, io_d__law_right, fr_d__law_well, ar_d__law_well, io_d__law_well, fr_d_law, ar_d_law, io_d_law, fr_m__law_holds, ar_m__law_holds, io_m__law_holds, fs__law_holds, fa__law_holds, fd__law_holds, fr_m__law_nodes, ar_m__law_nodes, io_m__law_nodes, fs__law_nodes, fa__law_nodes, fd__law_nodes, fr_m__law_tree, ar_m__law_tree, io_m__law_tree, fs__law_tree, fa__law_tree, fd__law_tree, fr_m_all_atoms, ar_m_all_atoms, io_m_all_atoms, fs_all_atoms, fa_all_atoms, fd_all_atoms, fr_m_nodes_in, ar_m_nodes_in, io_m_nodes_in, fs_nodes_in, fa_nodes_in, fd_nodes_in, fr_m_holds_by, ar_m_holds_by, io_m_holds_by, fs_holds_by, fa_holds_by, fd_holds_by, ar_c_0, e_countD, e_lookD, e_catL, e_listL_lst, e_listL_tup, if_or, if_and, nc_0, nc_1, nc_2, nc_3, nc_4, nc_5, nc_6, nc_7, nc_8, nc_9, nc_10, nc_11, nc_12, or_true, true_or, or_false, false_or, or_self, nw_ever_after, nw_ever_within, nw_ever_times, nw_ever_not, nw_ever_all, nw_ever_any, nw_after_ever, nw_after_within, nw_after_times, nw_after_not, nw_after_all, nw_after_any, nw_within_ever, nw_within_after, nw_within_times, nw_within_not, nw_within_all, nw_within_any, nw_times_ever, nw_times_after, nw_times_within, nw_times_not, nw_times_all, nw_times_any, nw_not_ever, nw_not_after, nw_not_within, nw_not_times, nw_not_all, nw_not_any, nw_all_ever, nw_all_after, nw_all_within, nw_all_times, nw_all_not, nw_all_any, nw_any_ever, nw_any_after, nw_any_within, nw_any_times, nw_any_not, nw_any_all, subD_int, subD_var, ixN_0, ixN_1, ixN_2, at0, at1, at2, at3, $[$ts:term],*])
/-! ### trees -/
theorem words3 (w : Str) : w = "not" ∨ w = "all" ∨ w = "any" ∨ (¬ w = "not" ∧ ¬ w = "all" ∧ ¬ w = "any") := by
  by_cases h1 : w = "not"
  · exact .inl h1
  by_cases h2 : w = "all"
  · exact .inr (.inl h2)
  by_cases h3 : w = "any"
  · exact .inr (.inr (.inl h3))
  · exact .inr (.inr (.inr ⟨h1, h2, h3⟩))
/-- a tree of up to so many levels -/
def treeB : Nat → D → Bool
  | l + 1, .tup (.str w :: x :: r) => if w = "not" then r.isEmpty && treeB l x else if w = "all" ∨ w = "any" then (match x with
      | .tup ts => r.isEmpty && decide (1 ≤ ts.length ∧ ts.length ≤ 6) && ts.all (treeB l)
      | _ => false) else atomB (.tup (.str w :: x :: r))
  | _, _ => false
theorem treeB_s (l : Nat) (w : Str) (x : D) (r : List D) : treeB (l + 1) (.tup (.str w :: x :: r)) = if w = "not" then r.isEmpty && treeB l x else if w = "all" ∨ w = "any" then (match x with
      | .tup ts => r.isEmpty && decide (1 ≤ ts.length ∧ ts.length ≤ 6) && ts.all (treeB l)
      | _ => false) else atomB (.tup (.str w :: x :: r)) := rfl
theorem treeB_0 (v : D) : treeB 0 v = false := by
  cases v <;> rfl
/-- how many nodes, which atoms -/
def nodesN : Nat → D → Nat
  | l + 1, .tup (.str w :: x :: _) => if w = "not" then 1 + nodesN l x else if w = "all" ∨ w = "any" then 1 + ((itemsB x).map (nodesN l)).sum else 1
  | _, _ => 1
def atomsL : Nat → D → List D
  | l + 1, .tup (.str w :: x :: r) => if w = "not" then atomsL l x else if w = "all" ∨ w = "any" then (itemsB x).flatMap (atomsL l) else [.tup (.str w :: x :: r)]
  | _, v => [v]
theorem nodesN_s (l : Nat) (w : Str) (x : D) (r : List D) : nodesN (l + 1) (.tup (.str w :: x :: r)) = if w = "not" then 1 + nodesN l x else if w = "all" ∨ w = "any" then 1 + ((itemsB x).map (nodesN l)).sum else 1 := rfl
theorem atomsL_s (l : Nat) (w : Str) (x : D) (r : List D) : atomsL (l + 1) (.tup (.str w :: x :: r)) = if w = "not" then atomsL l x else if w = "all" ∨ w = "any" then (itemsB x).flatMap (atomsL l) else [.tup (.str w :: x :: r)] := rfl
/-- what a tree is -/
inductive TreeP : Nat → D → Prop
  | not {l : Nat} {x : D} : treeB l x = true → TreeP (l + 1) (.tup [.str "not", x])
  | all {l : Nat} {ts : List D} : 1 ≤ ts.length → ts.length ≤ 6 → (∀ x ∈ ts, treeB l x = true) → TreeP (l + 1) (.tup [.str "all", .tup ts])
  | any {l : Nat} {ts : List D} : 1 ≤ ts.length → ts.length ≤ 6 → (∀ x ∈ ts, treeB l x = true) → TreeP (l + 1) (.tup [.str "any", .tup ts])
  | atom {l : Nat} {w : Str} {x : D} {r : List D} : ¬ w = "not" → ¬ w = "all" → ¬ w = "any" → atomB (.tup (.str w :: x :: r)) = true → TreeP (l + 1) (.tup (.str w :: x :: r))
theorem treeP_of {l : Nat} {v : D} (h : treeB l v = true) : TreeP l v := by
  cases l with
  | zero => rw [treeB_0] at h; cases h
  | succ l =>
    cases v with
    | tup xs =>
      cases xs with
      | nil => cases h
      | cons x xs =>
        cases xs with
        | nil => cases x <;> cases h
        | cons y r =>
          cases x with
          | str w =>
            rw [treeB_s] at h
            rcases words3 w with rfl | rfl | rfl | ⟨w1, w2, w3⟩
            · rw [if_pos rfl, Bool.and_eq_true] at h
              cases r with
              | nil => exact .not h.2
              | cons _ _ => cases h.1
            · simp only [nw_all_not, if_false, if_true, true_or] at h
              cases y with
              | tup ts =>
                simp only [Bool.and_eq_true, decide_eq_true_eq] at h
                cases r with
                | nil => exact .all h.1.2.1 h.1.2.2 (List.all_eq_true.mp h.2)
                | cons _ _ => cases h.1.1
              | _ => cases h
            · simp only [nw_any_not, if_false, if_true, or_true] at h
              cases y with
              | tup ts =>
                simp only [Bool.and_eq_true, decide_eq_true_eq] at h
                cases r with
                | nil => exact .any h.1.2.1 h.1.2.2 (List.all_eq_true.mp h.2)
                | cons _ _ => cases h.1.1
              | _ => cases h
            · rw [if_neg w1, if_neg (by rintro (z | z); exact w2 z; exact w3 z)] at h
              exact .atom w1 w2 w3 h
          | _ => cases h
    | _ => cases h
/-- the law's count of nodes, of a tree -/
theorem law_nodes_den : ∀ (k : Nat) {l : Nat} {v : D}, l < k → treeB l v = true → recDen m__law_nodes k [v] = .ok (.int (nodesN l v : Nat)) []
  | 0, _, _, h, _ => absurd h (Nat.not_lt_zero _)
  | k + 1, l, v, hk, hv => by
    have hs := size_is
    apply FO.eq_of
    show FO.Post _ _ _
    rw [fz_recDen]
    cases treeP_of hv with
    | not h =>
      wp_walk using m__law_nodes, eqD_str, law_nodes_den k (by omega) h, nodesN_s
      rfl
    | all h1 h2 h3 =>
      rename_i l ts
      wp_walk using m__law_nodes, eqD_str, inDs2, nodesN_s
      refine pz_lc1 (ρ1 := [.v (.tup [.str "all", .tup ts]), .n]) (ds := ts) (fun _ => true) (fun d => .int (nodesN l d : Nat)) rfl rfl (by omega) (fun d hd => ?_) (fun d hd _ => ?_) ?_
      · wp_walk
      · wp_walk using law_nodes_den k (by omega) (h3 d hd)
      · wp_walk using filt_true, ints_map
        congr 1
        rw [sum_cast]
        show _ = (((1 + (ts.map (nodesN l)).sum : Nat)) : Int)
        omega
    | any h1 h2 h3 =>
      rename_i l ts
      wp_walk using m__law_nodes, eqD_str, inDs2, nodesN_s
      refine pz_lc1 (ρ1 := [.v (.tup [.str "any", .tup ts]), .n]) (ds := ts) (fun _ => true) (fun d => .int (nodesN l d : Nat)) rfl rfl (by omega) (fun d hd => ?_) (fun d hd _ => ?_) ?_
      · wp_walk
      · wp_walk using law_nodes_den k (by omega) (h3 d hd)
      · wp_walk using filt_true, ints_map
        congr 1
        rw [sum_cast]
        show _ = (((1 + (ts.map (nodesN l)).sum : Nat)) : Int)
        omega
    | atom w1 w2 w3 h =>
      wp_walk using m__law_nodes, eqD_str, inDs2, nodesN_s, w1, w2, w3
      rfl
theorem flat_len {l : Nat} : ∀ {v : D}, treeB l v = true → (atomsL l v).length ≤ 6 ^ l := by
  induction l with
  | zero => exact fun h => by rw [treeB_0] at h; cases h
  | succ l ih =>
    intro v h
    have pos : 1 ≤ 6 ^ l := Nat.pos_of_ne_zero (by simp)
    have key : ∀ ts : List D, (∀ x ∈ ts, treeB l x = true) → (ts.flatMap (atomsL l)).length ≤ ts.length * 6 ^ l := by
      intro ts
      induction ts with
      | nil => exact fun _ => Nat.zero_le _
      | cons t ts iht =>
        intro ht
        rw [List.flatMap_cons, List.length_append, List.length_cons, Nat.add_mul]
        have := ih (ht t List.mem_cons_self)
        have := iht fun x hx => ht x (List.mem_cons_of_mem _ hx)
        omega
    cases treeP_of h with
    | not h => rw [atomsL_s, if_pos rfl, Nat.pow_succ]; have := ih h; omega
    | all h1 h2 h3 =>
      rename_i ts
      have e : atomsL (l + 1) (.tup [.str "all", .tup ts]) = ts.flatMap (atomsL l) := by
        rw [atomsL_s]
        simp only [nw_all_not, if_false, if_true, true_or]
        rfl
      rw [e, Nat.pow_succ, Nat.mul_comm]
      exact Nat.le_trans (key ts h3) (Nat.mul_le_mul_right _ h2)
    | any h1 h2 h3 =>
      rename_i ts
      have e : atomsL (l + 1) (.tup [.str "any", .tup ts]) = ts.flatMap (atomsL l) := by
        rw [atomsL_s]
        simp only [nw_any_not, if_false, if_true, or_true]
        rfl
      rw [e, Nat.pow_succ, Nat.mul_comm]
      exact Nat.le_trans (key ts h3) (Nat.mul_le_mul_right _ h2)
    | atom w1 w2 w3 h =>
      rw [atomsL_s, if_neg w1, if_neg (by rintro (z | z); exact w2 z; exact w3 z), Nat.pow_succ]
      simp
      omega
theorem isHist_snoc {done rest : List D} {x : D} (h : isDayB x = false) : isHistB (.tup (done ++ x :: rest)) = false := by
  show (done ++ x :: rest).all isDayB = false
  rw [List.all_append, List.all_cons, h, Bool.false_and, Bool.and_false]
theorem c0_den {n : Nat} {d b : D} (h : vOk n d = true) : c_0.den [d, b] = .ok (.bl (isDayB d)) [] := by
  apply FO.eq_of
  show FO.Post _ _ _
  rw [fo_cden]
  refine (?_ : Out.Pz _ _ _ .mk)
  wp_walk using c_0, is_day_den h
theorem wrong_at_ok {n : Nat} {v : D} (hv : vOk n v = true) : (d_wrong_at.den [v, .non, .clo 0 []]).Ok fun r os => os = [] ∧ ∃ ds, r = .lst ds ∧ (ds = [] ↔ isHistB v = true) ∧ ds.all flat = true := by
  have hs := size_is
  show FO.Post _ _ _
  rw [fz_den]
  wp_walk using d_wrong_at, isi_tup hv
  cases v with
  | tup ds =>
    have et : isTupB (.tup ds) = true := rfl
    obtain ⟨n, rfl, h4, h1⟩ := vOk_of hv
    wp_walk using et
    refine sz_forGo (z := .mk) (fun r ρ => ∃ (done rest : List D) (s3 s4 : Sl), ds = done ++ rest ∧ r = pairUp done.length rest ∧ NO s3 ∧ NO s4 ∧ done.all isDayB = true ∧ ρ = [.v (.tup ds), .v .non, .v (.clo 0 []), s3, s4]) ⟨[], ds, .n, .n, rfl, rfl, rfl, rfl, rfl, rfl⟩ ?_ ?_
    · rintro d r ρ ⟨done, rest, s3, s4, e1, e2, n3, n4, g1, rfl⟩
      cases rest with
      | nil => cases e2
      | cons x rest =>
        cases e2
        have hx := h1 x (by rw [e1]; simp)
        wp_walk using n3, n4, eqD_int_non, c0_den hx
        cases q : isDayB x with
        | true =>
          wp_walk
          exact ⟨done ++ [x], rest, .v (.int done.length), .v x, by rw [e1]; simp, by simp, rfl, rfl, by rw [List.all_append, g1, List.all_cons, q]; rfl, rfl⟩
        | false =>
          wp_walk
          refine ⟨_, rfl, ⟨fun z => (nomatch z), fun z => ?_⟩, rfl⟩
          rw [e1, isHist_snoc q] at z
          cases z
    · rintro ρ ⟨done, rest, s3, s4, e1, e2, n3, n4, g1, rfl⟩
      cases rest with
      | cons x rest => cases e2
      | nil =>
        rw [List.append_nil] at e1
        subst e1
        wp_walk
        exact ⟨_, rfl, ⟨fun _ => g1, fun _ => rfl⟩, rfl⟩
  | _ => wp_walk using isTupB; exact ⟨_, rfl, ⟨fun z => (nomatch z), fun z => by cases z⟩, rfl⟩
theorem wrong_day_ok {n : Nat} {v : D} (hv : vOk n v = true) : (d_wrong_day.den [v]).Ok fun r os => os = [] ∧ ∃ ds, r = .lst ds ∧ (ds = [] ↔ isHistB v = true) ∧ ds.all flat = true := by
  show FO.Post _ _ _
  rw [fz_den]
  wp_walk using d_wrong_day
  refine fz_mono (wrong_at_ok hv) ?_
  rintro r os ⟨rfl, ds, rfl, h⟩
  wp_walk
  exact ⟨_, rfl, h⟩
theorem eqD_nil {ds : List D} (h : ds.all flat = true) : eqD (.lst ds) (.lst []) = some (decide (ds = [])) := by
  obtain ⟨h1, h2⟩ := flats_data h
  unfold eqD
  rw [if_pos (by simp [D.data, h1, Ds.data, D.toP, PyData.depth, h2, Ds.toP, PyData.depthAll])]
  cases ds <;> simp [D.toP, Ds.toP, PyData.eqv, PyData.eqvAll]
/-! ### nodes, the package's way -/
theorem inDs3 (w x y z : Str) : inDs (.str w) [.str x, .str y, .str z] = some (decide (w = x ∨ w = y ∨ w = z)) := by
  have := inDs_map w [x, y, z]
  simp only [List.mem_cons, List.not_mem_nil, or_false] at this
  exact this
theorem gMOST_NODES : g_MOST_NODES = .int 10 := rfl
theorem gMOST_TREES : g_MOST_TREES = .int 6 := rfl
def isWd : D → Bool
  | .str w => decide (w = "all" ∨ w = "any" ∨ w = "not")
  | _ => false
theorem one_of3_den {n : Nat} {x : D} (h : vOk n x = true) : d_is_one_of.den [x, .tup [.str "all", .str "any", .str "not"]] = .ok (.bl (isWd x)) [] := by
  apply FO.eq_of
  show FO.Post _ _ _
  rw [fz_den]
  wp_walk using d_is_one_of, isi_str h
  cases x with
  | str w =>
    have e : isStrB (.str w) = true := rfl
    wp_walk using e, inDs3
    rfl
  | _ => wp_walk using isStrB; rfl
def tup2 : D → Bool
  | .tup [_, _] => true
  | _ => false
theorem tuple_of_den {n : Nat} {x : D} (h : vOk n x = true) : d_is_tuple_of.den [x, .int 2] = .ok (.bl (tup2 x)) [] := by
  have hs := size_is
  apply FO.eq_of
  show FO.Post _ _ _
  rw [fz_den]
  wp_walk using d_is_tuple_of, isi_tup h
  cases x with
  | tup xs =>
    have e : isTupB (.tup xs) = true := rfl
    obtain ⟨n, rfl, h4, h3⟩ := vOk_of h
    wp_walk using e, eqD_int
    congr 1
    match xs with
    | [] => rfl
    | [_] => rfl
    | [_, _] => rfl
    | _ :: _ :: _ :: r =>
      show _ = false
      rw [decide_eq_false_iff_not]
      simp only [List.length_cons]
      omega
  | _ => wp_walk using isTupB; rfl
def nodesV : Nat → D → Nat
  | l + 1, .tup [.str w, x] => if w = "not" then (if l = 0 then 11 else 1 + nodesV l x) else if w = "all" ∨ w = "any" then (match x with
      | .tup ts => if l = 0 ∨ ¬ (1 ≤ ts.length ∧ ts.length ≤ 6) then 11 else 1 + (ts.map (nodesV l)).sum
      | _ => 11) else if atomB (.tup [.str w, x]) then 1 else 11
  | 0, _ => 11
  | _ + 1, v => if atomB v then 1 else 11
theorem nodesV_s (l : Nat) (w : Str) (x : D) : nodesV (l + 1) (.tup [.str w, x]) = if w = "not" then (if l = 0 then 11 else 1 + nodesV l x) else if w = "all" ∨ w = "any" then (match x with
      | .tup ts => if l = 0 ∨ ¬ (1 ≤ ts.length ∧ ts.length ≤ 6) then 11 else 1 + (ts.map (nodesV l)).sum
      | _ => 11) else if atomB (.tup [.str w, x]) then 1 else 11 := rfl
theorem nodesV_0 (v : D) : nodesV 0 v = 11 := by
  unfold nodesV
  rfl
theorem nodesV_t {l : Nat} {v : D} (h : tup2 v = false) : nodesV (l + 1) v = if atomB v then 1 else 11 := by
  cases v with
  | tup xs =>
    match xs, h with
    | [], _ => rfl
    | [x], _ => cases x <;> rfl
    | [_, _], h => cases h
    | x :: _ :: _ :: _, _ => cases x <;> rfl
  | _ => rfl
theorem nodesV_x {l : Nat} {x y : D} (h : isStrB x = false) : nodesV (l + 1) (.tup [x, y]) = if atomB (.tup [x, y]) then 1 else 11 := by
  cases x with
  | str w => cases h
  | _ => rfl
theorem ife_int (b : Bool) : (if b = true then D.int 1 else D.int 11) = .int ((if b = true then 1 else 11 : Nat) : Int) := by cases b <;> rfl
theorem ints_one (i : Int) : intsOf [D.int i] = some [i] := rfl
theorem nodes_in_den : ∀ (k : Nat) {l n : Nat} {v : D}, l < k → l ≤ 100 → vOk n v = true → recDen m_nodes_in k [v, .int ((l + 1 : Nat) : Int)] = .ok (.int (nodesV (l + 1) v : Nat)) []
  | 0, _, _, _, h, _, _ => absurd h (Nat.not_lt_zero _)
  | k + 1, l, n, v, hk, hl, hv => by
    have hs := size_is
    apply FO.eq_of
    show FO.Post _ _ _
    rw [fz_recDen]
    have ha := atom_den hv
    cases q : tup2 v with
    | false =>
      rw [nodesV_t q]
      wp_walk using m_nodes_in, tuple_of_den hv, q, ha, gMOST_NODES, Int.reduceAdd
      cases atomB v <;> wp_walk using gMOST_NODES, Int.reduceAdd <;> rfl
    | true =>
      obtain ⟨x, y, rfl⟩ : ∃ x y, v = .tup [x, y] := by
        cases v with
        | tup xs =>
          match xs, q with
          | [x, y], _ => exact ⟨x, y, rfl⟩
        | _ => cases q
      obtain ⟨n, rfl, h4, h3⟩ := vOk_of hv
      have hx := h3 x (by simp)
      have hy := h3 y (by simp)
      cases qs : isStrB x with
      | false =>
        have q2 : isWd x = false := by cases x <;> first | rfl | cases qs
        rw [nodesV_x qs]
        wp_walk using m_nodes_in, tuple_of_den hv, q, one_of3_den hx, q2, ha, gMOST_NODES, Int.reduceAdd
        cases atomB (.tup [x, y]) <;> wp_walk using gMOST_NODES, Int.reduceAdd <;> rfl
      | true =>
        obtain ⟨w, rfl⟩ : ∃ w, x = .str w := by cases x <;> first | exact ⟨_, rfl⟩ | cases qs
        rw [nodesV_s]
        have hw : isWd (.str w) = decide (w = "all" ∨ w = "any" ∨ w = "not") := rfl
        wp_walk using m_nodes_in, tuple_of_den hv, q, one_of3_den hx, hw
        rcases words3 w with rfl | rfl | rfl | ⟨w1, w2, w3⟩
        · wp_walk using eqD_str, eqD_int
          cases l with
          | zero => wp_walk using gMOST_NODES, Int.reduceAdd
          | succ l =>
            have c1 : ¬ ((l + 1 + 1 : Nat) : Int) = 1 := by omega
            have c4 : ((l + 1 + 1 : Nat) : Int) - 1 = ((l + 1 : Nat) : Int) := by omega
            have c5 : ¬ l + 1 = 0 := by omega
            wp_walk using c1, c4, c5, gMOST_TREES
            refine pz_lc1 (ρ1 := [.v (.tup [.str "not", y]), .v (.int ((l + 1 + 1 : Nat) : Int)), .v (.tup [y]), .n]) (ds := [y]) (fun _ => true) (fun d => .int (nodesV (l + 1) d : Nat)) rfl rfl (by simp) (fun d hd => ?_) (fun d hd _ => ?_) ?_
            · wp_walk
            · rw [List.mem_singleton] at hd
              subst hd
              wp_walk using c4, nodes_in_den k (l := l) (by omega) (by omega) hy
            · wp_walk using filt_true, ints_one, List.sum_cons, List.sum_nil
              congr 1
        · wp_walk using eqD_str, eqD_int
          cases l with
          | zero =>
            wp_walk using gMOST_NODES, Int.reduceAdd
            cases y <;> rfl
          | succ l =>
            have c1 : ¬ ((l + 1 + 1 : Nat) : Int) = 1 := by omega
            have c4 : ((l + 1 + 1 : Nat) : Int) - 1 = ((l + 1 : Nat) : Int) := by omega
            have c5 : ¬ l + 1 = 0 := by omega
            wp_walk using c1, c4, c5, gMOST_TREES, isi_tup hy
            cases y with
            | tup ts =>
              have et : isTupB (.tup ts) = true := rfl
              obtain ⟨n, rfl, h5, h6⟩ := vOk_of hy
              wp_walk using et
              by_cases hl6 : 1 ≤ ts.length ∧ ts.length ≤ 6
              · have h1 : (1 : Int) ≤ (ts.length : Int) := by omega
                have h2 : (ts.length : Int) ≤ 6 := by omega
                wp_walk using h1, h2, hl6, gMOST_TREES
                refine pz_lc1 (ρ1 := [.v (.tup [.str "all", .tup ts]), .v (.int ((l + 1 + 1 : Nat) : Int)), .v (.tup ts), .n]) (ds := ts) (fun _ => true) (fun d => .int (nodesV (l + 1) d : Nat)) rfl rfl (by omega) (fun d hd => ?_) (fun d hd _ => ?_) ?_
                · wp_walk
                · wp_walk using c4, nodes_in_den k (l := l) (by omega) (by omega) (h6 d hd)
                · wp_walk using filt_true, ints_map
                  congr 1
                  rw [sum_cast]
                  rw [if_neg fun z => z hl6]
                  omega
              · have h1 : (1 : Int) ≤ (ts.length : Int) ↔ 1 ≤ ts.length := by omega
                have h2 : (ts.length : Int) ≤ 6 ↔ ts.length ≤ 6 := by omega
                by_cases g1 : 1 ≤ ts.length
                · have g2 : ¬ ts.length ≤ 6 := fun z => hl6 ⟨g1, z⟩
                  wp_walk using h1, h2, g1, g2, gMOST_NODES, gMOST_TREES, Int.reduceAdd
                · wp_walk using h1, h2, g1, gMOST_NODES, gMOST_TREES, Int.reduceAdd
            | _ => wp_walk using isTupB, gMOST_NODES, Int.reduceAdd
        · wp_walk using eqD_str, eqD_int
          cases l with
          | zero =>
            wp_walk using gMOST_NODES, Int.reduceAdd
            cases y <;> rfl
          | succ l =>
            have c1 : ¬ ((l + 1 + 1 : Nat) : Int) = 1 := by omega
            have c4 : ((l + 1 + 1 : Nat) : Int) - 1 = ((l + 1 : Nat) : Int) := by omega
            have c5 : ¬ l + 1 = 0 := by omega
            wp_walk using c1, c4, c5, gMOST_TREES, isi_tup hy
            cases y with
            | tup ts =>
              have et : isTupB (.tup ts) = true := rfl
              obtain ⟨n, rfl, h5, h6⟩ := vOk_of hy
              wp_walk using et
              by_cases hl6 : 1 ≤ ts.length ∧ ts.length ≤ 6
              · have h1 : (1 : Int) ≤ (ts.length : Int) := by omega
                have h2 : (ts.length : Int) ≤ 6 := by omega
                wp_walk using h1, h2, hl6, gMOST_TREES
                refine pz_lc1 (ρ1 := [.v (.tup [.str "any", .tup ts]), .v (.int ((l + 1 + 1 : Nat) : Int)), .v (.tup ts), .n]) (ds := ts) (fun _ => true) (fun d => .int (nodesV (l + 1) d : Nat)) rfl rfl (by omega) (fun d hd => ?_) (fun d hd _ => ?_) ?_
                · wp_walk
                · wp_walk using c4, nodes_in_den k (l := l) (by omega) (by omega) (h6 d hd)
                · wp_walk using filt_true, ints_map
                  congr 1
                  rw [sum_cast]
                  rw [if_neg fun z => z hl6]
                  omega
              · have h1 : (1 : Int) ≤ (ts.length : Int) ↔ 1 ≤ ts.length := by omega
                have h2 : (ts.length : Int) ≤ 6 ↔ ts.length ≤ 6 := by omega
                by_cases g1 : 1 ≤ ts.length
                · have g2 : ¬ ts.length ≤ 6 := fun z => hl6 ⟨g1, z⟩
                  wp_walk using h1, h2, g1, g2, gMOST_NODES, gMOST_TREES, Int.reduceAdd
                · wp_walk using h1, h2, g1, gMOST_NODES, gMOST_TREES, Int.reduceAdd
            | _ => wp_walk using isTupB, gMOST_NODES, Int.reduceAdd
        · wp_walk using w1, w2, w3, ha, gMOST_NODES, Int.reduceAdd
          cases atomB (.tup [.str w, y]) <;> wp_walk using gMOST_NODES, Int.reduceAdd <;> rfl
theorem mem_sum {α : Type} (f : α → Nat) {x : α} {xs : List α} (h : x ∈ xs) : f x ≤ (xs.map f).sum := by
  induction xs with
  | nil => cases h
  | cons y xs ih =>
    rw [List.map_cons, List.sum_cons]
    cases h with
    | head => omega
    | tail _ h => have := ih h; omega
theorem nodesV_tree {l : Nat} : ∀ {v : D}, treeB l v = true → nodesV l v = nodesN l v := by
  induction l with
  | zero => exact fun h => by rw [treeB_0] at h; cases h
  | succ l ih =>
    intro v h
    have key : ∀ {ts : List D}, 1 ≤ ts.length → ts.length ≤ 6 → (∀ x ∈ ts, treeB l x = true) → ¬ (l = 0 ∨ ¬ (1 ≤ ts.length ∧ ts.length ≤ 6)) ∧ ts.map (nodesV l) = ts.map (nodesN l) := by
      intro ts h1 h2 h3
      refine ⟨?_, List.map_congr_left fun x hx => ih (h3 x hx)⟩
      rintro (rfl | z)
      · cases ts with
        | nil => simp at h1
        | cons t ts => have := h3 t List.mem_cons_self; rw [treeB_0] at this; cases this
      · exact z ⟨h1, h2⟩
    cases treeP_of h with
    | not g =>
      rw [nodesV_s, if_pos rfl, nodesN_s, if_pos rfl, ih g]
      cases l with
      | zero => rw [treeB_0] at g; cases g
      | succ l => rfl
    | all h1 h2 h3 =>
      obtain ⟨e1, e2⟩ := key h1 h2 h3
      rw [nodesV_s, nodesN_s]
      simp only [nw_all_not, if_false, if_true, true_or]
      rw [if_neg e1, e2]
      rfl
    | any h1 h2 h3 =>
      obtain ⟨e1, e2⟩ := key h1 h2 h3
      rw [nodesV_s, nodesN_s]
      simp only [nw_any_not, if_false, if_true, or_true]
      rw [if_neg e1, e2]
      rfl
    | @atom _ w x r w1 w2 w3 g =>
      have hw : ¬ (w = "all" ∨ w = "any") := by rintro (z | z); exact w2 z; exact w3 z
      rw [nodesN_s, if_neg w1, if_neg hw]
      cases r with
      | nil => rw [nodesV_s, if_neg w1, if_neg hw, if_pos g]
      | cons y r => rw [nodesV_t rfl, if_pos g]
theorem atomB_word {w : Str} {x : D} {r : List D} (h : w = "not" ∨ w = "all" ∨ w = "any") : atomB (.tup (.str w :: x :: r)) = false := by
  rw [atomB_str]
  rcases h with rfl | rfl | rfl <;> simp only [nw_not_ever, nw_not_after, nw_not_within, nw_not_times, nw_all_ever, nw_all_after, nw_all_within, nw_all_times, nw_any_ever, nw_any_after, nw_any_within, nw_any_times, if_false, Bool.and_false]
theorem nodesV_bad {l : Nat} : ∀ {v : D}, treeB l v = false → 11 ≤ nodesV l v := by
  induction l with
  | zero => exact fun {v} _ => by rw [nodesV_0]; exact Nat.le_refl _
  | succ l ih =>
    intro v h
    have noAtom : atomB v = false → 11 ≤ (if atomB v = true then 1 else 11) := fun z => by rw [z]; decide
    have kall : ∀ {ts : List D}, (([] : List D).isEmpty && decide (1 ≤ ts.length ∧ ts.length ≤ 6) && ts.all (treeB l)) = false → 11 ≤ (if l = 0 ∨ ¬ (1 ≤ ts.length ∧ ts.length ≤ 6) then 11 else 1 + (ts.map (nodesV l)).sum) := by
      intro ts h
      split
      · exact Nat.le_refl _
      · rename_i hn
        have h6 : 1 ≤ ts.length ∧ ts.length ≤ 6 := Decidable.of_not_not fun z => hn (.inr z)
        rw [decide_eq_true h6, List.isEmpty_nil, Bool.true_and, Bool.true_and, List.all_eq_false] at h
        obtain ⟨t, ht, hb⟩ := h
        have := ih (v := t) (by simpa using hb)
        have := mem_sum (nodesV l) ht
        omega
    cases v with
    | tup xs =>
      match xs, h, noAtom with
      | [], h, noAtom => exact noAtom rfl
      | [x], h, noAtom => rw [nodesV_t rfl]; exact noAtom (by cases x <;> rfl)
      | x :: y :: r, h, noAtom =>
        cases x with
        | str w =>
          rw [treeB_s] at h
          cases r with
          | nil =>
            rw [nodesV_s]
            rcases words3 w with rfl | rfl | rfl | ⟨w1, w2, w3⟩
            · rw [if_pos rfl] at h ⊢
              have h : treeB l y = false := h
              have := ih h
              split <;> omega
            · simp only [nw_all_not, if_false, if_true, true_or] at h ⊢
              cases y with
              | tup ts => exact kall h
              | _ => exact Nat.le_refl _
            · simp only [nw_any_not, if_false, if_true, or_true] at h ⊢
              cases y with
              | tup ts => exact kall h
              | _ => exact Nat.le_refl _
            · have hw : ¬ (w = "all" ∨ w = "any") := by rintro (z | z); exact w2 z; exact w3 z
              rw [if_neg w1, if_neg hw] at h ⊢
              exact noAtom h
          | cons z r =>
            rw [nodesV_t rfl]
            apply noAtom
            rcases words3 w with rfl | rfl | rfl | ⟨w1, w2, w3⟩
            · exact atomB_word (.inl rfl)
            · exact atomB_word (.inr (.inl rfl))
            · exact atomB_word (.inr (.inr rfl))
            · have hw : ¬ (w = "all" ∨ w = "any") := by rintro (z | z); exact w2 z; exact w3 z
              rw [if_neg w1, if_neg hw] at h
              exact h
        | _ =>
          cases r with
          | nil => rw [nodesV_x rfl]; exact noAtom rfl
          | cons z r => rw [nodesV_t rfl]; exact noAtom rfl
    | _ => exact noAtom rfl

/-! ### atoms -/
inductive AtomP : D → Prop
  | ever {k : List Str} : k.Sublist k6 → AtomP (.tup [.str "ever", .tup (k.map .str)])
  | after {k b : List Str} : k.Sublist k6 → b.Sublist k6 → AtomP (.tup [.str "after", .tup (k.map .str), .tup (b.map .str)])
  | within {k : List Str} {n : Int} : k.Sublist k6 → AtomP (.tup [.str "within", .tup (k.map .str), .int n])
  | times {k : List Str} {m n : Int} : k.Sublist k6 → AtomP (.tup [.str "times", .tup (k.map .str), .int m, .int n])
theorem numB_int {lo hi : Int} {d : D} (h : numB lo hi d = true) : ∃ i, d = .int i := by
  cases d with
  | int i => exact ⟨i, rfl⟩
  | _ => cases h
theorem atomP_of {w : Str} {x : D} {r : List D} (h : atomB (.tup (.str w :: x :: r)) = true) : AtomP (.tup (.str w :: x :: r)) := by
  rw [atomB_str, Bool.and_eq_true] at h
  obtain ⟨hk, h⟩ := h
  obtain ⟨zs, rfl, hz⟩ := strs_of_kinds hk
  rcases words4 w with rfl | rfl | rfl | rfl | ⟨w1, w2, w3, w4⟩
  · rw [if_pos rfl] at h
    cases r with
    | nil => exact .ever hz
    | cons _ _ => cases h
  · simp only [nw_after_ever, if_false, if_true] at h
    match r, h with
    | [b], h =>
      have h : (kindsB 1 b && (itemsB b).all fun x => !memB (.tup (zs.map .str)) x) = true := h
      rw [Bool.and_eq_true] at h
      obtain ⟨ys, rfl, hy⟩ := strs_of_kinds h.1
      exact .after hz hy
    | [], h => cases h
    | _ :: _ :: _, h => cases h
  · simp only [nw_within_ever, nw_within_after, if_false, if_true] at h
    match r, h with
    | [n], h =>
      have h : numB 1 4 n = true := h
      obtain ⟨i, rfl⟩ := numB_int h
      exact .within hz
    | [], h => cases h
    | _ :: _ :: _, h => cases h
  · simp only [nw_times_ever, nw_times_after, nw_times_within, if_false, if_true] at h
    match r, h with
    | [m, n], h =>
      cases m with
      | int m =>
        have h : (numB 2 3 (.int m) && numB m 4 n) = true := h
        rw [Bool.and_eq_true] at h
        obtain ⟨i, rfl⟩ := numB_int h.2
        exact .times hz
      | _ => cases h
    | [], h => cases h
    | [m], h => cases m <;> cases h
    | m :: _ :: _ :: _, h => cases m <;> cases h
  · rw [if_neg w1, if_neg w2, if_neg w3, if_neg w4] at h
    cases h
theorem strs_dOk {k : List Str} (h : k.Sublist k6) (n : Nat) : dOk (n + 1) (.tup (k.map .str)) = true := by
  have hl := h.length_le
  have l6 : k6.length = 6 := rfl
  show (decide ((k.map D.str).length ≤ 100) && (k.map D.str).all (dOk n)) = true
  rw [List.length_map, decide_eq_true (by omega), Bool.true_and, List.all_eq_true]
  intro x hx
  obtain ⟨z, _, rfl⟩ := List.mem_map.mp hx
  exact dOk_flat rfl n
theorem tup_dOk {n : Nat} {xs : List D} (h : xs.length ≤ 100) (h2 : ∀ x ∈ xs, dOk n x = true) : dOk (n + 1) (.tup xs) = true := by
  show (decide (xs.length ≤ 100) && xs.all (dOk n)) = true
  rw [decide_eq_true h, Bool.true_and, List.all_eq_true]
  exact h2
theorem atomP_dOk {d : D} (h : AtomP d) : dOk 2 d = true := by
  cases h with
  | ever h =>
    refine tup_dOk (by simp) fun x hx => ?_
    simp only [List.mem_cons, List.not_mem_nil, or_false] at hx
    rcases hx with rfl | rfl
    · exact dOk_flat rfl _
    · exact strs_dOk h 0
  | after h g =>
    refine tup_dOk (by simp) fun x hx => ?_
    simp only [List.mem_cons, List.not_mem_nil, or_false] at hx
    rcases hx with rfl | rfl | rfl
    · exact dOk_flat rfl _
    · exact strs_dOk h 0
    · exact strs_dOk g 0
  | within h =>
    refine tup_dOk (by simp) fun x hx => ?_
    simp only [List.mem_cons, List.not_mem_nil, or_false] at hx
    rcases hx with rfl | rfl | rfl
    · exact dOk_flat rfl _
    · exact strs_dOk h 0
    · exact dOk_flat rfl _
  | times h =>
    refine tup_dOk (by simp) fun x hx => ?_
    simp only [List.mem_cons, List.not_mem_nil, or_false] at hx
    rcases hx with rfl | rfl | rfl | rfl
    · exact dOk_flat rfl _
    · exact strs_dOk h 0
    · exact dOk_flat rfl _
    · exact dOk_flat rfl _
theorem atomsP {l : Nat} : ∀ {v : D}, treeB l v = true → ∀ x ∈ atomsL l v, AtomP x := by
  induction l with
  | zero => exact fun h => by rw [treeB_0] at h; cases h
  | succ l ih =>
    intro v h
    have key : ∀ {ts : List D}, (∀ x ∈ ts, treeB l x = true) → ∀ x ∈ ts.flatMap (atomsL l), AtomP x := by
      intro ts h x hx
      obtain ⟨t, ht, hx⟩ := List.mem_flatMap.mp hx
      exact ih (h t ht) x hx
    cases treeP_of h with
    | not h => rw [atomsL_s, if_pos rfl]; exact ih h
    | all h1 h2 h3 =>
      rw [atomsL_s]
      simp only [nw_all_not, if_false, if_true, true_or]
      exact key h3
    | any h1 h2 h3 =>
      rw [atomsL_s]
      simp only [nw_any_not, if_false, if_true, or_true]
      exact key h3
    | atom w1 w2 w3 g =>
      rw [atomsL_s, if_neg w1, if_neg (by rintro (z | z); exact w2 z; exact w3 z)]
      intro x hx
      rw [List.mem_singleton] at hx
      subst hx
      exact atomP_of g
/-- each once -/
def seenB (d : D) (acc : List D) : Bool := acc.any fun y => PyData.eqv y.toP d.toP
def dd : List D → List D → List D
  | acc, [] => acc
  | acc, d :: r => dd (if seenB d acc = true then acc else acc ++ [d]) r
theorem seen_den {d : D} {acc : List D} (h : AtomP d) (h2 : ∀ x ∈ acc, AtomP x) : inDs d acc = some (seenB d acc) := by
  have q := dOk_data (atomP_dOk h)
  have q2 : Ds.data acc = true := by
    rw [Ds.data_all, List.all_eq_true]
    exact fun x hx => (dOk_data (atomP_dOk (h2 x hx))).1
  unfold inDs
  rw [if_pos]
  · rfl
  · rw [q.1, q2, Bool.true_and, Bool.true_and, decide_eq_true_eq]
    have := q.2
    omega
theorem dd_mem : ∀ {r acc : List D} {x : D}, x ∈ dd acc r → x ∈ acc ∨ x ∈ r
  | [], acc, x, h => .inl h
  | d :: r, acc, x, h => by
    rcases dd_mem (r := r) h with h | h
    · split at h
      · exact .inl h
      · rcases List.mem_append.mp h with h | h
        · exact .inl h
        · exact .inr (by rw [List.mem_singleton] at h; subst h; exact List.mem_cons_self)
    · exact .inr (List.mem_cons_of_mem _ h)
theorem dd_len : ∀ {r acc : List D}, (dd acc r).length ≤ acc.length + r.length
  | [], acc => Nat.le_refl _
  | d :: r, acc => by
    have := dd_len (r := r) (acc := if seenB d acc = true then acc else acc ++ [d])
    refine Nat.le_trans this ?_
    split
    · simp only [List.length_cons]; omega
    · simp only [List.length_append, List.length_cons, List.length_nil]; omega
theorem trees_not {x : D} : d_trees_in.den [.tup [.str "not", x]] = .ok (.lst [x]) [] := by
  apply FO.eq_of
  show FO.Post _ _ _
  rw [fz_den]
  wp_walk using d_trees_in, eqD_str
theorem trees_all {ts : List D} : d_trees_in.den [.tup [.str "all", .tup ts]] = .ok (.lst ts) [] := by
  apply FO.eq_of
  show FO.Post _ _ _
  rw [fz_den]
  wp_walk using d_trees_in, eqD_str, inDs2
theorem trees_any {ts : List D} : d_trees_in.den [.tup [.str "any", .tup ts]] = .ok (.lst ts) [] := by
  apply FO.eq_of
  show FO.Post _ _ _
  rw [fz_den]
  wp_walk using d_trees_in, eqD_str, inDs2
theorem pz_lcGo {vs : List Nat} {tg : D → En → Option En} {cond : En → Out Bool} {elt : En → Out D} {ds : List D} {ρ : En} {Q : List D → En → Prop} {R : Xn → En → Prop} {z : Lz (Q, R)} (I : List D → List D → En → Prop) (h : I ds [] ρ)
    (st : ∀ d r ys ρ, I (d :: r) ys ρ → OPz (tg d (wipeE ρ vs)) (fun ρ2 => (cond ρ2).Pz (fun t ρ3 => if t = true then (elt ρ3).Pz (fun y ρ4 => I r (ys ++ [y]) ρ4) (fun _ _ => False) .mk else I r ys ρ3) (fun _ _ => False) .mk) .mk)
    (e : ∀ zs ρ', I [] zs ρ' → Q zs ρ') : (lcGo vs tg cond elt ds ρ).Pz Q R z := by
  show Out.Post _ _ _
  refine Out.Post.mono (lcGo_post I st h) (fun zs ρ' u => e zs ρ' ?_) fun _ _ z => z.elim
  have u : I [] ([] ++ zs) ρ' := u
  rw [List.nil_append] at u
  exact u
theorem all_atoms_den : ∀ (k : Nat) {l : Nat} {v : D}, l < k → l ≤ 4 → treeB l v = true → recDen m_all_atoms k [v] = .ok (.lst (atomsL l v)) []
  | 0, _, _, h, _, _ => absurd h (Nat.not_lt_zero _)
  | k + 1, l, v, hk, hl, hv => by
    have hs := size_is
    have hfl := flat_len hv
    have h64 : 6 ^ l ≤ 6 ^ 4 := Nat.pow_le_pow_right (by decide) hl
    have h1296 : 6 ^ 4 = 1296 := by decide
    apply FO.eq_of
    show FO.Post _ _ _
    rw [fz_recDen]
    cases treeP_of hv with
    | not h =>
      rename_i l x
      wp_walk using m_all_atoms, eqD_str, inDs3
      refine pz_lc2D (?_ : Out.Pz _ _ _ .mk)
      wp_walk using trees_not
      refine ⟨fun r ys ρ => ∃ (done : List D) (s1 s2 : Sl), [x] = done ++ r ∧ ys = done.flatMap (atomsL l) ∧ NO s1 ∧ NO s2 ∧ ρ = [.v (.tup [.str "not", x]), s1, s2], ⟨[], .n, .n, rfl, rfl, rfl, rfl, rfl⟩, ?_, ?_⟩
      · rintro d r ys ρ ⟨done, s1, s2, e1, rfl, n1, n2, rfl⟩
        wp_walk using n1, n2, all_atoms_den k (by omega) (by omega) (show treeB l d = true by
          cases done with
          | nil => cases e1; exact h
          | cons _ q => cases q <;> cases e1)
        refine pz_lcGo (fun r2 zs ρ => ∃ (s : Sl), atomsL l d = zs ++ r2 ∧ NO s ∧ ρ = [.v (.tup [.str "not", x]), .v d, s]) ⟨.n, rfl, rfl, rfl⟩ ?_ ?_
        · rintro e r2 zs ρ ⟨s, e2, n3, rfl⟩
          wp_walk using n3
          exact ⟨.v e, by rw [e2]; simp, rfl, rfl⟩
        · rintro zs ρ ⟨s, e2, n3, rfl⟩
          rw [List.append_nil] at e2
          subst e2
          exact ⟨done ++ [d], .v d, s, by rw [e1]; simp, by simp, rfl, n3, rfl⟩
      · rintro ys ρ ⟨done, s1, s2, e1, rfl, n1, n2, rfl⟩
        rw [List.append_nil] at e1
        subst e1
        have e : atomsL (l + 1) (.tup [.str "not", x]) = atomsL l x := by rw [atomsL_s, if_pos rfl]
        rw [e] at hfl ⊢
        simp only [List.flatMap_cons, List.flatMap_nil, List.append_nil]
        refine ⟨by omega, ?_⟩
        wp_walk
    | all h1 h2 h3 =>
      rename_i l ts
      wp_walk using m_all_atoms, eqD_str, inDs3
      refine pz_lc2D (?_ : Out.Pz _ _ _ .mk)
      wp_walk using trees_all
      refine ⟨fun r ys ρ => ∃ (done : List D) (s1 s2 : Sl), ts = done ++ r ∧ ys = done.flatMap (atomsL l) ∧ NO s1 ∧ NO s2 ∧ ρ = [.v (.tup [.str "all", .tup ts]), s1, s2], ⟨[], .n, .n, rfl, rfl, rfl, rfl, rfl⟩, ?_, ?_⟩
      · rintro d r ys ρ ⟨done, s1, s2, e1, rfl, n1, n2, rfl⟩
        wp_walk using n1, n2, all_atoms_den k (by omega) (by omega) (h3 d (by rw [e1]; simp))
        refine pz_lcGo (fun r2 zs ρ => ∃ (s : Sl), atomsL l d = zs ++ r2 ∧ NO s ∧ ρ = [.v (.tup [.str "all", .tup ts]), .v d, s]) ⟨.n, rfl, rfl, rfl⟩ ?_ ?_
        · rintro e r2 zs ρ ⟨s, e2, n3, rfl⟩
          wp_walk using n3
          exact ⟨.v e, by rw [e2]; simp, rfl, rfl⟩
        · rintro zs ρ ⟨s, e2, n3, rfl⟩
          rw [List.append_nil] at e2
          subst e2
          exact ⟨done ++ [d], .v d, s, by rw [e1]; simp, by simp, rfl, n3, rfl⟩
      · rintro ys ρ ⟨done, s1, s2, e1, rfl, n1, n2, rfl⟩
        rw [List.append_nil] at e1
        subst e1
        have e : atomsL (l + 1) (.tup [.str "all", .tup ts]) = ts.flatMap (atomsL l) := by
          rw [atomsL_s]
          simp only [nw_all_not, if_false, if_true, true_or, or_true]
          rfl
        rw [e] at hfl ⊢
        refine ⟨by omega, ?_⟩
        wp_walk
    | any h1 h2 h3 =>
      rename_i l ts
      wp_walk using m_all_atoms, eqD_str, inDs3
      refine pz_lc2D (?_ : Out.Pz _ _ _ .mk)
      wp_walk using trees_any
      refine ⟨fun r ys ρ => ∃ (done : List D) (s1 s2 : Sl), ts = done ++ r ∧ ys = done.flatMap (atomsL l) ∧ NO s1 ∧ NO s2 ∧ ρ = [.v (.tup [.str "any", .tup ts]), s1, s2], ⟨[], .n, .n, rfl, rfl, rfl, rfl, rfl⟩, ?_, ?_⟩
      · rintro d r ys ρ ⟨done, s1, s2, e1, rfl, n1, n2, rfl⟩
        wp_walk using n1, n2, all_atoms_den k (by omega) (by omega) (h3 d (by rw [e1]; simp))
        refine pz_lcGo (fun r2 zs ρ => ∃ (s : Sl), atomsL l d = zs ++ r2 ∧ NO s ∧ ρ = [.v (.tup [.str "any", .tup ts]), .v d, s]) ⟨.n, rfl, rfl, rfl⟩ ?_ ?_
        · rintro e r2 zs ρ ⟨s, e2, n3, rfl⟩
          wp_walk using n3
          exact ⟨.v e, by rw [e2]; simp, rfl, rfl⟩
        · rintro zs ρ ⟨s, e2, n3, rfl⟩
          rw [List.append_nil] at e2
          subst e2
          exact ⟨done ++ [d], .v d, s, by rw [e1]; simp, by simp, rfl, n3, rfl⟩
      · rintro ys ρ ⟨done, s1, s2, e1, rfl, n1, n2, rfl⟩
        rw [List.append_nil] at e1
        subst e1
        have e : atomsL (l + 1) (.tup [.str "any", .tup ts]) = ts.flatMap (atomsL l) := by
          rw [atomsL_s]
          simp only [nw_any_not, if_false, if_true, true_or, or_true]
          rfl
        rw [e] at hfl ⊢
        refine ⟨by omega, ?_⟩
        wp_walk
    | atom w1 w2 w3 h => wp_walk using m_all_atoms, eqD_str, inDs3, atomsL_s, w1, w2, w3
/-! ### the last days -/
def isSpan : D → Bool
  | .tup (.str w :: _) => decide (w = "within" ∨ w = "times")
  | _ => false
def lastI : D → Int
  | .tup [.str w, _, .int n] => if w = "within" then n else 0
  | .tup [.str w, _, _, .int n] => if w = "times" then n else 0
  | _ => 0
theorem lastI3 (w : Str) (x : D) (n : Int) : lastI (.tup [.str w, x, .int n]) = if w = "within" then n else 0 := rfl
theorem lastI4 (w : Str) (x y : D) (n : Int) : lastI (.tup [.str w, x, y, .int n]) = if w = "times" then n else 0 := by cases y <;> rfl
theorem isSpan_s (w : Str) (r : List D) : isSpan (.tup (.str w :: r)) = decide (w = "within" ∨ w = "times") := rfl
theorem atm3 {α : Type} (a b c : α) : atI [a, b, c] (-1) = some c := at_last (xs := [a, b])
theorem atm4 {α : Type} (a b c d : α) : atI [a, b, c, d] (-1) = some d := at_last (xs := [a, b, c])
theorem last_den {d : D} (h : AtomP d) : d_last_of.den [d] = .ok (.int (lastI d)) [] := by
  apply FO.eq_of
  show FO.Post _ _ _
  rw [fz_den]
  cases h with
  | ever h => wp_walk using d_last_of, inDs2; rfl
  | after h g => wp_walk using d_last_of, inDs2; rfl
  | within h => wp_walk using d_last_of, inDs2, Int.reduceNeg, atm3, lastI3
  | times h => wp_walk using d_last_of, inDs2, Int.reduceNeg, atm4, lastI4
theorem last_not {d : D} (h : AtomP d) (h2 : isSpan d = false) : lastI d = 0 := by
  cases h with
  | ever h => rfl
  | after h g => rw [show ∀ (a b : List D), lastI (.tup [.str "after", .tup a, .tup b]) = 0 from fun _ _ => rfl]
  | within h => rw [isSpan_s] at h2; simp at h2
  | times h => rw [isSpan_s] at h2; simp at h2
theorem last_sum {xs : List D} (h : ∀ x ∈ xs, AtomP x) : ((xs.filter isSpan).map lastI).sum = (xs.map lastI).sum := by
  induction xs with
  | nil => rfl
  | cons x xs ih =>
    have := ih fun y hy => h y (List.mem_cons_of_mem _ hy)
    rw [List.map_cons, List.sum_cons]
    cases q : isSpan x with
    | true => rw [List.filter_cons_of_pos q, List.map_cons, List.sum_cons, this]
    | false => rw [List.filter_cons_of_neg (by rw [q]; decide), this, last_not (h x List.mem_cons_self) q, Int.zero_add]

/-! ### rules judged -/
def onceL (v : D) : List D := dd [] (atomsL 4 v)
def ruleB (v : D) : Bool := treeB 4 v && decide (nodesN 4 v ≤ 10) && (decide ((onceL v).length ≤ 5) && decide (((onceL v).map lastI).sum ≤ 8))
theorem onceP {v : D} (h : treeB 4 v = true) : ∀ x ∈ onceL v, AtomP x := by
  intro x hx
  rcases dd_mem hx with h2 | h2
  · cases h2
  · exact atomsP h x h2
theorem once_len {v : D} (h : treeB 4 v = true) : (onceL v).length ≤ 1296 := by
  have h1 := dd_len (r := atomsL 4 v) (acc := [])
  have h2 := flat_len h
  have h3 : 6 ^ 4 = 1296 := by decide
  have h4 : (onceL v).length ≤ 0 + (atomsL 4 v).length := h1
  omega
theorem atoms_of_den {v : D} (h : treeB 4 v = true) : d_atoms_of.den [v] = .ok (.lst (onceL v)) [] := by
  have hs := size_is
  have hl := flat_len h
  have h1296 : 6 ^ 4 = 1296 := by decide
  apply FO.eq_of
  show FO.Post _ _ _
  rw [fz_den]
  wp_walk using d_atoms_of, all_atoms_den 16 (l := 4) (by decide) (by decide) h
  refine sz_forGo (z := .mk) (fun r ρ => ∃ (acc : List D) (s : Sl), dd acc r = onceL v ∧ acc.length + r.length ≤ 1296 ∧ (∀ x ∈ acc, AtomP x) ∧ (∀ x ∈ r, AtomP x) ∧ NO s ∧ ρ = [.v v, .o (.lst acc), s]) ⟨[], .n, rfl, by simp only [List.length_nil]; omega, (fun _ h => nomatch h), atomsP h, rfl, rfl⟩ ?_ ?_
  · rintro d r ρ ⟨acc, s, e1, e2, e3, e4, n1, rfl⟩
    rw [List.length_cons] at e2
    have hd := e4 d List.mem_cons_self
    have hr := fun x hx => e4 x (List.mem_cons_of_mem _ hx)
    have e1 : dd (if seenB d acc = true then acc else acc ++ [d]) r = onceL v := e1
    have hlt : acc.length < 16777216 := by omega
    wp_walk using n1, seen_den hd e3, hlt
    cases q : seenB d acc with
    | true =>
      rw [if_pos q] at e1
      wp_walk
      exact ⟨acc, .v d, e1, by omega, e3, hr, rfl, rfl⟩
    | false =>
      rw [if_neg (by rw [q]; decide)] at e1
      wp_walk using hlt
      refine ⟨acc ++ [d], .v d, e1, by rw [List.length_append, List.length_singleton]; omega, ?_, hr, rfl, rfl⟩
      intro x hx
      rcases List.mem_append.mp hx with hx | hx
      · exact e3 x hx
      · rw [List.mem_singleton] at hx; subst hx; exact hd
  · rintro ρ ⟨acc, s, e1, e2, e3, e4, n1, rfl⟩
    have e1 : acc = onceL v := e1
    subst e1
    wp_walk
theorem gMOST_LEVELS : g_MOST_LEVELS = .int 4 := rfl
theorem gMOST_ATOMS : g_MOST_ATOMS = .int 5 := rfl
theorem gMOST_LAST_IN_ALL : g_MOST_LAST_IN_ALL = .int 8 := rfl
/-- is_rule -/
theorem is_rule_den {n : Nat} {v : D} (hv : vOk n v = true) : d_is_rule.den [v] = .ok (.bl (ruleB v)) [] := by
  have hs := size_is
  have hn : recDen m_nodes_in 16 [v, .int 4] = .ok (.int (nodesV 4 v : Nat)) [] := nodes_in_den 16 (l := 3) (by decide) (by decide) hv
  apply FO.eq_of
  show FO.Post _ _ _
  rw [fz_den]
  wp_walk using d_is_rule, gMOST_LEVELS, hn, gMOST_NODES
  cases q : treeB 4 v with
  | false =>
    have := nodesV_bad q
    have c : (10 : Int) < ((nodesV 4 v : Nat) : Int) := by
      have : 11 ≤ nodesV 4 v := this
      omega
    wp_walk using c
    unfold ruleB
    rw [q]
    rfl
  | true =>
    have hV : nodesV 4 v = nodesN 4 v := nodesV_tree q
    rw [hV]
    by_cases c : nodesN 4 v ≤ 10
    · have c2 : ¬ (10 : Int) < ((nodesN 4 v : Nat) : Int) := by omega
      have hl := once_len q
      wp_walk using c2, atoms_of_den q, gMOST_ATOMS, gMOST_LAST_IN_ALL
      by_cases g : (onceL v).length ≤ 5
      · have g1 : ((onceL v).length : Int) ≤ 5 := by omega
        wp_walk using g1
        refine pz_lc1 (ρ1 := [.v v, .v (.lst (onceL v)), .n]) (ds := onceL v) (fun _ => true) (fun d => .int (lastI d)) rfl rfl (by omega) (fun d hd => ?_) (fun d hd _ => ?_) ?_
        · wp_walk
        · wp_walk using last_den (onceP q d hd)
        · wp_walk using filt_true, ints_map, gMOST_LAST_IN_ALL
          unfold ruleB
          rw [q, decide_eq_true c, decide_eq_true g]
          rfl
      · have g1 : ¬ ((onceL v).length : Int) ≤ 5 := by omega
        wp_walk using g1
        unfold ruleB
        rw [decide_eq_false g, Bool.false_and, Bool.and_false]
    · have c2 : (10 : Int) < ((nodesN 4 v : Nat) : Int) := by omega
      wp_walk using c2
      unfold ruleB
      rw [decide_eq_false c, Bool.and_false, Bool.false_and]
end K02
set_option Elab.async false
set_option maxRecDepth 100000
set_option maxHeartbeats 4000000
namespace K02
open PySem PySem.Spec L2 Ev
local macro_rules
  | `(tactic| wp_walk) => `(tactic| simp -dsimp only [↓w_den_int, ↓w_den_str, ↓w_den_bl, ↓w_den_non, ↓w_den_glo, ↓w_den_dict0, ↓w_den_lam, ↓w_con_at, ↓w_as_nil, ↓w_as_cons, ↓w_den_tup, ↓w_den_lst, ↓w_den_bin, ↓w_den_neg, ↓w_den_cmp, ↓w_tst_cmp, ↓w_den_chn, ↓w_tst_chn, ↓w_den_idx, ↓w_den_sli, ↓w_po_none_at, ↓w_po_some_at, ↓w_den_revT, ↓w_den_bfn, ↓w_den_tfn, ↓w_den_isi, ↓w_den_oidx, ↓w_den_olen, ↓w_den_new, ↓w_den_call, ↓w_den_call0, ↓w_den_callf, ↓w_den_callkw, ↓w_den_callv, ↓w_den_and, ↓w_den_or, ↓w_tst_and, ↓w_tst_or, ↓w_one_dAnd, ↓w_one_dOr, ↓w_one_tAnd, ↓w_one_tOr, ↓w_cons_dAnd, ↓w_cons_dOr, ↓w_cons_tAnd, ↓w_cons_tOr, ↓w_den_not, ↓w_tst_not, ↓w_den_ife, ↓w_den_repr, ↓w_tst_repr, ↓w_tst_var, ↓w_tst_isi, ↓w_tst_call, ↓w_tst_callv, ↓w_tst_bfn, ↓w_toD_at, ↓w_ar_nil, ↓w_ar_cons, ↓w_ar_own, ↓w_sr_val, ↓w_sr_enum, ↓w_sr_zip, ↓w_sr_range1, ↓w_cs_nil, ↓w_cs_one, ↓w_fx_lst, ↓w_fx_lc, ↓w_fx_call, ↓w_fx_listRg1, ↓w_den_gindex, ↓w_den_lindex, ↓w_bl_nil, ↓w_bl_cons, ↓w_sm_ret, ↓w_sm_retF, ↓w_sm_retO, ↓w_sm_ifs, ↓w_sm_for, ↓w_sm_set, ↓w_sm_asg, ↓w_sm_frz, ↓w_sm_parM, ↓w_sm_own, ↓w_sm_app, ↓w_sm_stuck, ↓w_ms_nil, ↓w_ms_v, ↓w_ms_f, ↓pz_ok, ↓pz_er, ↓pz_no, ↓pz_bind, ↓pz_ite, ↓sz_ite, ↓fz_ite, ↓sz_nx, ↓sz_bk, ↓sz_ct, ↓sz_rt, ↓sz_rf, ↓sz_er, ↓sz_no, ↓sz_after, ↓sz_next, ↓fz_ok, ↓fz_er, ↓fz_no, ↓pz_lift, ↓pz_var, ↓pz_dvar, ↓pz_dcon, ↓pz_dRepr, ↓pz_oidxD, ↓pz_olenD, ↓pz_callK, ↓pz_callfK, ↓pz_callF, ↓pz_callD, ↓pz_kwD, ↓pz_callvD, ↓sz_ownD, ↓sz_appD, ↓sz_retO, ↓sz_expr, ↓pz_kxnil, ↓pz_kxcons, ↓fz_cden, ↓oz_map, ↓oz_bind, ↓oz_if, ↓oz_ite, ↓pz_dChn, ↓pz_pop, ↓pz_oinD, ↓w_oin_den, ↓w_oin_tst, ↓w_fx_add, ↓w_fx_list, ↓w_fx_lc2, ↓w_den_didx, ↓w_den_lcount, ↓w_den_dc, if_F, wn_nx, wn_bk, wn_ct, wn_rt, wn_rf, wn_er, lp_nx, lp_bk, lp_ct, lp_rt, lp_rf, lp_er, df_nx, df_rt, df_rf, df_er, oz_some, oz_none, isO_n, isO_v, isO_o, slV_z, slV_s, slO_z, slO_s, slN_z, slN_s, isOwn_z, isOwn_s, lstAt_sl, nameD_sl, frzD_sl, fill_nil, fill_cons, put_nil, put_cons, outsE_nil, outsE_cons, kx_ks, kx_ks0, sem_den, sem_io, sem_fresh, sem_ar, csem_den, csem_io, csem_fresh, csem_ar, ar_nil_own, ar_cons_own, ar_own_own, tg_name, tg_tup, tg_sub, tgs_nil, tgs_cons, g_len, g_abs, g_max, g_min, g_divmod, g_all, g_any, g_sum, g_int, g_list, g_tuple, up, nilD, consD, putM, startE, start0, wipeE, noOwn, okF, e_lenD_tup, e_lenD_lst, e_lenD_scr, e_absD_int, e_maxD_int, e_minD_int, e_maxD_lst, e_minD_lst, e_divmodD_int, e_allD_lst, e_anyD_lst, e_sumD_lst, e_intD_int, e_intD_bl, e_listD_lst, e_listD_tup, e_listD_scr, e_tupleD_lst, e_tupleD_tup, e_idxD_tup, e_idxD_lst, e_idxD_scr, e_sliD_tup, e_sliD_lst, e_sliD_scr, e_revTD_tup, e_itemsOf_tup, e_itemsOf_lst, e_itemsOf_scr, e_itemsOf_str, e_enumD_lst, e_enumD_tup, e_zipsD_lst, e_zipsD_tup, e_r1D_int, e_ltD_int, e_ltD_str, e_leD_int, e_isNon_non, e_isNon_bl, e_isNon_int, e_isNon_str, e_isNon_tup, e_isNon_lst, e_isNon_dic, e_isD_bl, e_inD_strt, e_inD_strl, e_inD_intt, e_inD_intl, e_opAdd_int, e_opAdd_str, e_opAdd_tup, e_opAdd_lst, e_opSub_int, e_opMul_int, e_opFdiv_int, e_opMod_int, e_truth_non, e_truth_bl, e_truth_int, e_truth_tup, e_truth_lst, e_truth_dic, e_isL_lst, e_isLst_lst, e_mapB_def, e_cmpD_Lt, e_cmpD_Gt, e_cmpD_LtE, e_cmpD_GtE, e_cmpD_Eq, e_cmpD_NotEq, e_cmpD_In, e_cmpD_NotIn, e_cmpD_Is, e_cmpD_IsNot, e_binD_Add, e_binD_Sub, e_binD_Mult, e_binD_FloorDiv, e_binD_Mod, e_binD_Pow, e_isD_non, e_isi_tyInt_non, e_isi_tyInt_bl, e_isi_tyInt_int, e_isi_tyInt_str, e_isi_tyInt_tup, e_isi_tyInt_lst, e_isi_tyInt_scr, e_isi_tyInt_dic, e_isi_tyBool_non, e_isi_tyBool_bl, e_isi_tyBool_int, e_isi_tyBool_str, e_isi_tyBool_tup, e_isi_tyBool_lst, e_isi_tyBool_scr, e_isi_tyBool_dic, e_isi_tyStr_non, e_isi_tyStr_bl, e_isi_tyStr_int, e_isi_tyStr_str, e_isi_tyStr_tup, e_isi_tyStr_lst, e_isi_tyStr_scr, e_isi_tyStr_dic, e_isi_tyTuple_non, e_isi_tyTuple_bl, e_isi_tyTuple_int, e_isi_tyTuple_str, e_isi_tyTuple_tup, e_isi_tyTuple_lst, e_isi_tyTuple_scr, e_isi_tyTuple_dic, e_isi_tyList_non, e_isi_tyList_bl, e_isi_tyList_int, e_isi_tyList_str, e_isi_tyList_tup, e_isi_tyList_lst, e_isi_tyList_scr, e_isi_tyList_dic, e_isi_tyDict_non, e_isi_tyDict_bl, e_isi_tyDict_int, e_isi_tyDict_str, e_isi_tyDict_tup, e_isi_tyDict_lst, e_isi_tyDict_scr, e_isi_tyDict_dic, e_tup_n, List.set_cons_zero, List.set_cons_succ, List.set_nil, List.length_cons, List.length_nil, List.length_map, List.length_append, List.contains_nil, List.contains_cons, List.replicate_succ, List.replicate_zero, List.cons_append, List.nil_append, List.append_nil, List.map_cons, List.map_nil, List.all_cons, List.all_nil, List.lookup_cons, List.isEmpty_nil, List.isEmpty_cons, Option.getD_some, Option.getD_none, Option.map_some, Option.map_none, Option.bind_some, Option.bind_none, List.getD_cons_zero, List.getD_cons_succ, if_true, if_false, ite_true, ite_false, Bool.false_eq_true, reduceIte, reduceCtorEq, Bool.not_true, Bool.not_false, Bool.not_not, Bool.and_true, Bool.true_and, Bool.and_false, Bool.false_and, Bool.or_true, Bool.true_or, Bool.or_false, Bool.false_or, and_true, true_and, and_false, false_and, and_self, decide_true, decide_false, decide_eq_true_eq, Bool.not_eq_true', Bool.not_eq_eq_eq_not, Nat.zero_add, Nat.add_zero, Nat.reduceAdd, Nat.reduceSub, Nat.reduceLT, Nat.reduceLeDiff, Nat.reduceEqDiff, Nat.reduceBEq, Int.reduceLT, Int.reduceLE, Int.reduceEq, beq_self_eq_true, ne_eq, not_true_eq_false, not_false_eq_true, eq_self, Nat.zero_le, le_size, lt_size, fr_d__law_draw, ar_d__law_draw, io_d__law_draw, fr_d__law_kinds, ar_d__law_kinds, io_d__law_kinds, fr_d__law_of, ar_d__law_of, io_d__law_of, fr_d__law_unlike, ar_d__law_unlike, io_d__law_unlike, fr_d__law_history, ar_d__law_history, io_d__law_history, fr_d__law_atom_holds, ar_d__law_atom_holds, io_d__law_atom_holds, fr_d__law_is, ar_d__law_is, io_d__law_is, fr_d__law_some, ar_d__law_some, io_d__law_some, fr_d__law_atom, ar_d__law_atom, io_d__law_atom, fr_d__law_atoms, ar_d__law_atoms, io_d__law_atoms, fr_d__law_rule, ar_d__law_rule, io_d__law_rule, fr_d_is_ascending, ar_d_is_ascending, io_d_is_ascending, fr_d_is_one_of, ar_d_is_one_of, io_d_is_one_of, fr_d_is_day, ar_d_is_day, io_d_is_day, fr_d_wrong_at, ar_d_wrong_at, io_d_wrong_at, fr_d_wrong_day, ar_d_wrong_day, io_d_wrong_day, fr_d_check_history, ar_d_check_history, io_d_check_history, fr_d_trees_in, ar_d_trees_in, io_d_trees_in, fr_d_atoms_of, ar_d_atoms_of, io_d_atoms_of, fr_d_last_of, ar_d_last_of, io_d_last_of, fr_d_are_kinds, ar_d_are_kinds, io_d_are_kinds, fr_d_is_whole, ar_d_is_whole, io_d_is_whole, fr_d_is_number, ar_d_is_number, io_d_is_number, fr_d_is_atom, ar_d_is_atom, io_d_is_atom, fr_d_is_tuple_of, ar_d_is_tuple_of, io_d_is_tuple_of, fr_d_is_rule, ar_d_is_rule, io_d_is_rule, fr_d_check_rule, ar_d_check_rule, io_d_check_rule, fr_d_has_some, ar_d_has_some, io_d_has_some, fr_d_is_last, ar_d_is_last, io_d_is_last, fr_d_atom_holds, ar_d_atom_holds, io_d_atom_holds, fr_d_holds_for, ar_d_holds_for, io_d_holds_for, fr_d_holds, ar_d_holds, io_d_holds, fr_d__law_right, ar_d__law_right, io_d__law_right, fr_d__law_well, ar_d__law_well, io_d__law_well, fr_d_law, ar_d_law, io_d_law, fr_m__law_holds, ar_m__law_holds, io_m__law_holds, fs__law_holds, fa__law_holds, fd__law_holds, fr_m__law_nodes, ar_m__law_nodes, io_m__law_nodes, fs__law_nodes, fa__law_nodes, fd__law_nodes, fr_m__law_tree, ar_m__law_tree, io_m__law_tree, fs__law_tree, fa__law_tree, fd__law_tree, fr_m_all_atoms, ar_m_all_atoms, io_m_all_atoms, fs_all_atoms, fa_all_atoms, fd_all_atoms, fr_m_nodes_in, ar_m_nodes_in, io_m_nodes_in, fs_nodes_in, fa_nodes_in, fd_nodes_in, fr_m_holds_by, ar_m_holds_by, io_m_holds_by, fs_holds_by, fa_holds_by, fd_holds_by, ar_c_0, e_countD, e_lookD, e_catL, e_listL_lst, e_listL_tup, if_or, if_and, nc_0, nc_1, nc_2, nc_3, nc_4, nc_5, nc_6, nc_7, nc_8, nc_9, nc_10, nc_11, nc_12, or_true, true_or, or_false, false_or, or_self, nw_ever_after, nw_ever_within, nw_ever_times, nw_ever_not, nw_ever_all, nw_ever_any, nw_after_ever, nw_after_within, nw_after_times, nw_after_not, nw_after_all, nw_after_any, nw_within_ever, nw_within_after, nw_within_times, nw_within_not, nw_within_all, nw_within_any, nw_times_ever, nw_times_after, nw_times_within, nw_times_not, nw_times_all, nw_times_any, nw_not_ever, nw_not_after, nw_not_within, nw_not_times, nw_not_all, nw_not_any, nw_all_ever, nw_all_after, nw_all_within, nw_all_times, nw_all_not, nw_all_any, nw_any_ever, nw_any_after, nw_any_within, nw_any_times, nw_any_not, nw_any_all, subD_int, subD_var, ixN_0, ixN_1, ixN_2, at0, at1, at2, at3])
  | `(tactic| wp_walk using $ts,*) => `(tactic| simp -dsimp only [↓w_den_int, ↓w_den_str, ↓w_den_bl, ↓w_den_non, ↓w_den_glo, ↓w_den_dict0, ↓w_den_lam, ↓w_con_at, ↓w_as_nil, ↓w_as_cons, ↓w_den_tup, ↓w_den_lst, ↓w_den_bin, ↓w_den_neg, ↓w_den_cmp, ↓w_tst_cmp, ↓w_den_chn, ↓w_tst_chn, ↓w_den_idx, ↓w_den_sli, ↓w_po_none_at, ↓w_po_some_at, ↓w_den_revT, ↓w_den_bfn, ↓w_den_tfn, ↓w_den_isi, ↓w_den_oidx, ↓w_den_olen, ↓w_den_new, ↓w_den_call, ↓w_den_call0, ↓w_den_callf, ↓w_den_callkw, ↓w_den_callv, ↓w_den_and, ↓w_den_or, ↓w_tst_and, ↓w_tst_or, ↓w_one_dAnd, ↓w_one_dOr, ↓w_one_tAnd, ↓w_one_tOr, ↓w_cons_dAnd, ↓w_cons_dOr, ↓w_cons_tAnd, ↓w_cons_tOr, ↓w_den_not, ↓w_tst_not, ↓w_den_ife, ↓w_den_repr, ↓w_tst_repr, ↓w_tst_var, ↓w_tst_isi, ↓w_tst_call, ↓w_tst_callv, ↓w_tst_bfn, ↓w_toD_at, ↓w_ar_nil, ↓w_ar_cons, ↓w_ar_own, ↓w_sr_val, ↓w_sr_enum, ↓w_sr_zip, ↓w_sr_range1, ↓w_cs_nil, ↓w_cs_one, ↓w_fx_lst, ↓w_fx_lc, ↓w_fx_call, ↓w_fx_listRg1, ↓w_den_gindex, ↓w_den_lindex, ↓w_bl_nil, ↓w_bl_cons, ↓w_sm_ret, ↓w_sm_retF, ↓w_sm_retO, ↓w_sm_ifs, ↓w_sm_for, ↓w_sm_set, ↓w_sm_asg, ↓w_sm_frz, ↓w_sm_parM, ↓w_sm_own, ↓w_sm_app, ↓w_sm_stuck, ↓w_ms_nil, ↓w_ms_v, ↓w_ms_f, ↓pz_ok, ↓pz_er, ↓pz_no, ↓pz_bind, ↓pz_ite, ↓sz_ite, ↓fz_ite, ↓sz_nx, ↓sz_bk, ↓sz_ct, ↓sz_rt, ↓sz_rf, ↓sz_er, ↓sz_no, ↓sz_after, ↓sz_next, ↓fz_ok, ↓fz_er, ↓fz_no, ↓pz_lift, ↓pz_var, ↓pz_dvar, ↓pz_dcon, ↓pz_dRepr, ↓pz_oidxD, ↓pz_olenD, ↓pz_callK, ↓pz_callfK, ↓pz_callF, ↓pz_callD, ↓pz_kwD, ↓pz_callvD, ↓sz_ownD, ↓sz_appD, ↓sz_retO, ↓sz_expr, ↓pz_kxnil, ↓pz_kxcons, ↓fz_cden, ↓oz_map, ↓oz_bind, ↓oz_if, ↓oz_ite, ↓pz_dChn, ↓pz_pop, ↓pz_oinD, ↓w_oin_den, ↓w_oin_tst, ↓w_fx_add, ↓w_fx_list, ↓w_fx_lc2, ↓w_den_didx, ↓w_den_lcount, ↓w_den_dc, if_F, wn_nx, wn_bk, wn_ct, wn_rt, wn_rf, wn_er, lp_nx, lp_bk, lp_ct, lp_rt, lp_rf, lp_er, df_nx, df_rt, df_rf, df_er, oz_some, oz_none, isO_n, isO_v, isO_o, slV_z, slV_s, slO_z, slO_s, slN_z, slN_s, isOwn_z, isOwn_s, lstAt_sl, nameD_sl, frzD_sl, fill_nil, fill_cons, put_nil, put_cons, outsE_nil, outsE_cons, kx_ks, kx_ks0, sem_den, sem_io, sem_fresh, sem_ar, csem_den, csem_io, csem_fresh, csem_ar, ar_nil_own, ar_cons_own, ar_own_own, tg_name, tg_tup, tg_sub, tgs_nil, tgs_cons, g_len, g_abs, g_max, g_min, g_divmod, g_all, g_any, g_sum, g_int, g_list, g_tuple, up, nilD, consD, putM, startE, start0, wipeE, noOwn, okF, e_lenD_tup, e_lenD_lst, e_lenD_scr, e_absD_int, e_maxD_int, e_minD_int, e_maxD_lst, e_minD_lst, e_divmodD_int, e_allD_lst, e_anyD_lst, e_sumD_lst, e_intD_int, e_intD_bl, e_listD_lst, e_listD_tup, e_listD_scr, e_tupleD_lst, e_tupleD_tup, e_idxD_tup, e_idxD_lst, e_idxD_scr, e_sliD_tup, e_sliD_lst, e_sliD_scr, e_revTD_tup, e_itemsOf_tup, e_itemsOf_lst, e_itemsOf_scr, e_itemsOf_str, e_enumD_lst, e_enumD_tup, e_zipsD_lst, e_zipsD_tup, e_r1D_int, e_ltD_int, e_ltD_str, e_leD_int, e_isNon_non, e_isNon_bl, e_isNon_int, e_isNon_str, e_isNon_tup, e_isNon_lst, e_isNon_dic, e_isD_bl, e_inD_strt, e_inD_strl, e_inD_intt, e_inD_intl, e_opAdd_int, e_opAdd_str, e_opAdd_tup, e_opAdd_lst, e_opSub_int, e_opMul_int, e_opFdiv_int, e_opMod_int, e_truth_non, e_truth_bl, e_truth_int, e_truth_tup, e_truth_lst, e_truth_dic, e_isL_lst, e_isLst_lst, e_mapB_def, e_cmpD_Lt, e_cmpD_Gt, e_cmpD_LtE, e_cmpD_GtE, e_cmpD_Eq, e_cmpD_NotEq, e_cmpD_In, e_cmpD_NotIn, e_cmpD_Is, e_cmpD_IsNot, e_binD_Add, e_binD_Sub, e_binD_Mult, e_binD_FloorDiv, e_binD_Mod, e_binD_Pow, e_isD_non, e_isi_tyInt_non, e_isi_tyInt_bl, e_isi_tyInt_int, e_isi_tyInt_str, e_isi_tyInt_tup, e_isi_tyInt_lst, e_isi_tyInt_scr, e_isi_tyInt_dic, e_isi_tyBool_non, e_isi_tyBool_bl, e_isi_tyBool_int, e_isi_tyBool_str, e_isi_tyBool_tup, e_isi_tyBool_lst, e_isi_tyBool_scr, e_isi_tyBool_dic, e_isi_tyStr_non, e_isi_tyStr_bl, e_isi_tyStr_int, e_isi_tyStr_str, e_isi_tyStr_tup, e_isi_tyStr_lst, e_isi_tyStr_scr, e_isi_tyStr_dic, e_isi_tyTuple_non, e_isi_tyTuple_bl, e_isi_tyTuple_int, e_isi_tyTuple_str, e_isi_tyTuple_tup, e_isi_tyTuple_lst, e_isi_tyTuple_scr, e_isi_tyTuple_dic, e_isi_tyList_non, e_isi_tyList_bl, e_isi_tyList_int, e_isi_tyList_str, e_isi_tyList_tup, e_isi_tyList_lst, e_isi_tyList_scr, e_isi_tyList_dic, e_isi_tyDict_non, e_isi_tyDict_bl, e_isi_tyDict_int, e_isi_tyDict_str, e_isi_tyDict_tup, e_isi_tyDict_lst, e_isi_tyDict_scr, e_isi_tyDict_dic, e_tup_n, List.set_cons_zero, List.set_cons_succ, List.set_nil, List.length_cons, List.length_nil, List.length_map, List.length_append, List.contains_nil, List.contains_cons, List.replicate_succ, List.replicate_zero, List.cons_append, List.nil_append, List.append_nil, List.map_cons, List.map_nil, List.all_cons, List.all_nil, List.lookup_cons, List.isEmpty_nil, List.isEmpty_cons, Option.getD_some, Option.getD_none, Option.map_some, Option.map_none, Option.bind_some, Option.bind_none, List.getD_cons_zero, List.getD_cons_succ, if_true, if_false, ite_true, ite_false, Bool.false_eq_true, reduceIte, reduceCtorEq, Bool.not_true, Bool.not_false, Bool.not_not, Bool.and_true, Bool.true_and, Bool.and_false, Bool.false_and, Bool.or_true, Bool.true_or, Bool.or_false, Bool.false_or, and_true, true_and, and_false, false_and, and_self, decide_true, decide_false, decide_eq_true_eq, Bool.not_eq_true', Bool.not_eq_eq_eq_not, Nat.zero_add, Nat.add_zero, Nat.reduceAdd, Nat.reduceSub, Nat.reduceLT, Nat.reduceLeDiff, Nat.reduceEqDiff, Nat.reduceBEq, Int.reduceLT, Int.reduceLE, Int.reduceEq, beq_self_eq_true, ne_eq, not_true_eq_false, not_false_eq_true, eq_self, Nat.zero_le, le_size, lt_size, fr_d__law_draw, ar_d__law_draw, io_d__law_draw, fr_d__law_kinds, ar_d__law_kinds, io_d__law_kinds, fr_d__law_of, ar_d__law_of, io_d__law_of, fr_d__law_unlike, ar_d__law_unlike, io_d__law_unlike, fr_d__law_history, ar_d__law_history, io_d__law_history, fr_d__law_atom_holds, ar_d__law_atom_holds, io_d__law_atom_holds, fr_d__law_is, ar_d__law_is, io_d__law_is, fr_d__law_some, ar_d__law_some, io_d__law_some, fr_d__law_atom, ar_d__law_atom, io_d__law_atom, fr_d__law_atoms, ar_d__law_atoms, io_d__law_atoms, fr_d__law_rule, ar_d__law_rule, io_d__law_rule, fr_d_is_ascending, ar_d_is_ascending, io_d_is_ascending, fr_d_is_one_of, ar_d_is_one_of, io_d_is_one_of, fr_d_is_day, ar_d_is_day, io_d_is_day, fr_d_wrong_at, ar_d_wrong_at, io_d_wrong_at, fr_d_wrong_day, ar_d_wrong_day, io_d_wrong_day, fr_d_check_history, ar_d_check_history, io_d_check_history, fr_d_trees_in, ar_d_trees_in, io_d_trees_in, fr_d_atoms_of, ar_d_atoms_of, io_d_atoms_of, fr_d_last_of, ar_d_last_of, io_d_last_of, fr_d_are_kinds, ar_d_are_kinds, io_d_are_kinds, fr_d_is_whole, ar_d_is_whole, io_d_is_whole, fr_d_is_number, ar_d_is_number, io_d_is_number, fr_d_is_atom, ar_d_is_atom, io_d_is_atom, fr_d_is_tuple_of, ar_d_is_tuple_of, io_d_is_tuple_of, fr_d_is_rule, ar_d_is_rule, io_d_is_rule, fr_d_check_rule, ar_d_check_rule, io_d_check_rule, fr_d_has_some, ar_d_has_some, io_d_has_some, fr_d_is_last, ar_d_is_last, io_d_is_last, fr_d_atom_holds, ar_d_atom_holds, io_d_atom_holds, fr_d_holds_for, ar_d_holds_for, io_d_holds_for, fr_d_holds, ar_d_holds, io_d_holds, fr_d__law_right, ar_d__law_right, io_d__law_right, fr_d__law_well, ar_d__law_well, io_d__law_well, fr_d_law, ar_d_law, io_d_law, fr_m__law_holds, ar_m__law_holds, io_m__law_holds, fs__law_holds, fa__law_holds, fd__law_holds, fr_m__law_nodes, ar_m__law_nodes, io_m__law_nodes, fs__law_nodes, fa__law_nodes, fd__law_nodes, fr_m__law_tree, ar_m__law_tree, io_m__law_tree, fs__law_tree, fa__law_tree, fd__law_tree, fr_m_all_atoms, ar_m_all_atoms, io_m_all_atoms, fs_all_atoms, fa_all_atoms, fd_all_atoms, fr_m_nodes_in, ar_m_nodes_in, io_m_nodes_in, fs_nodes_in, fa_nodes_in, fd_nodes_in, fr_m_holds_by, ar_m_holds_by, io_m_holds_by, fs_holds_by, fa_holds_by, fd_holds_by, ar_c_0, e_countD, e_lookD, e_catL, e_listL_lst, e_listL_tup, if_or, if_and, nc_0, nc_1, nc_2, nc_3, nc_4, nc_5, nc_6, nc_7, nc_8, nc_9, nc_10, nc_11, nc_12, or_true, true_or, or_false, false_or, or_self, nw_ever_after, nw_ever_within, nw_ever_times, nw_ever_not, nw_ever_all, nw_ever_any, nw_after_ever, nw_after_within, nw_after_times, nw_after_not, nw_after_all, nw_after_any, nw_within_ever, nw_within_after, nw_within_times, nw_within_not, nw_within_all, nw_within_any, nw_times_ever, nw_times_after, nw_times_within, nw_times_not, nw_times_all, nw_times_any, nw_not_ever, nw_not_after, nw_not_within, nw_not_times, nw_not_all, nw_not_any, nw_all_ever, nw_all_after, nw_all_within, nw_all_times, nw_all_not, nw_all_any, nw_any_ever, nw_any_after, nw_any_within, nw_any_times, nw_any_not, nw_any_all, subD_int, subD_var, ixN_0, ixN_1, ixN_2, at0, at1, at2, at3, $[$ts:term],*])
/-! ### what an atom means -/
def dayD (l : List Str) : D := .tup (l.map .str)
def histD (h : List (List Str)) : D := .tup (h.map dayD)
def zsOf : D → List Str
  | .tup xs => (strsOf xs).getD []
  | _ => []
theorem zs_tup (l : List Str) : zsOf (.tup (l.map .str)) = l := by
  show (strsOf (l.map D.str)).getD [] = l
  rw [strsOf_map]
  rfl
theorem zs_day (l : List Str) : zsOf (dayD l) = l := zs_tup l
def someB (k l : List Str) : Bool := l.any fun z => decide (z ∈ k)
def stepB (a b : List Str) (f : Bool) (k : Str) : Bool := if k ∈ a then true else if k ∈ b then false else f
def lastN (n : Int) (h : List (List Str)) : List (List Str) := h.drop (h.length - n.toNat)
def satA (h : List (List Str)) : D → Bool
  | .tup [.str _, k] => h.any (someB (zsOf k))
  | .tup [.str _, k, .int n] => decide (1 ≤ ((lastN n h).filter (someB (zsOf k))).length)
  | .tup [.str _, a, .tup b] => h.flatten.foldl (stepB (zsOf a) (zsOf (.tup b))) false
  | .tup [.str _, k, .int m, .int n] => decide (m ≤ (((lastN n h).filter (someB (zsOf k))).length : Int))
  | _ => false
theorem sat_ever (h : List (List Str)) (w : Str) (k : List Str) : satA h (.tup [.str w, .tup (k.map .str)]) = h.any (someB k) := by
  show h.any (someB (zsOf (.tup (k.map .str)))) = _
  rw [zs_tup]
theorem sat_within (h : List (List Str)) (w : Str) (k : List Str) (n : Int) : satA h (.tup [.str w, .tup (k.map .str), .int n]) = decide (1 ≤ ((lastN n h).filter (someB k)).length) := by
  show decide (1 ≤ ((lastN n h).filter (someB (zsOf (.tup (k.map .str))))).length) = _
  rw [zs_tup]
theorem sat_after (h : List (List Str)) (w : Str) (a b : List Str) : satA h (.tup [.str w, .tup (a.map .str), .tup (b.map .str)]) = h.flatten.foldl (stepB a b) false := by
  show h.flatten.foldl (stepB (zsOf (.tup (a.map .str))) (zsOf (.tup (b.map .str)))) false = _
  rw [zs_tup, zs_tup]
theorem sat_times (h : List (List Str)) (w : Str) (k : List Str) (m n : Int) : satA h (.tup [.str w, .tup (k.map .str), .int m, .int n]) = decide (m ≤ (((lastN n h).filter (someB k)).length : Int)) := by
  show decide (m ≤ (((lastN n h).filter (someB (zsOf (.tup (k.map .str))))).length : Int)) = _
  rw [zs_tup]
/-- the last days, both ways -/
theorem cut_last {α : Type} (xs : List α) {n : Int} (hn : 1 ≤ n) : cutL xs (some (-n)) none = xs.drop (xs.length - n.toNat) := by
  unfold cutL HT.sIx
  simp only [if_pos (show -n < 0 by omega)]
  rw [List.take_of_length_le (by rw [List.length_drop]; omega)]
  congr 1
  omega
theorem cut_from {α : Type} (xs : List α) (n : Int) : cutL xs (some (if (xs.length : Int) - n > 0 then (xs.length : Int) - n else 0)) none = xs.drop ((xs.length : Int) - n).toNat := by
  unfold cutL HT.sIx
  have h0 : ¬ (if (xs.length : Int) - n > 0 then (xs.length : Int) - n else 0) < 0 := by split <;> omega
  simp only [if_neg h0]
  rw [List.take_of_length_le (by rw [List.length_drop]; exact Nat.le_refl _)]
  by_cases h : (xs.length : Int) - n > 0
  · rw [if_pos h]
    by_cases h2 : ((xs.length : Int) - n).toNat ≤ xs.length
    · rw [Nat.min_eq_left h2]
    · rw [Nat.min_eq_right (by omega), List.drop_length, List.drop_eq_nil_of_le (by omega)]
  · rw [if_neg h]
    congr 1
    omega
def inkD (k : List Str) : D → D
  | .str z => .bl (decide (z ∈ k))
  | _ => .non
theorem ink_map (k l : List Str) : (l.map D.str).map (inkD k) = (l.map fun z => decide (z ∈ k)).map .bl := by
  rw [List.map_map, List.map_map]
  rfl
theorem has_some_den {k l : List Str} (hl : l.length ≤ 100) : d_has_some.den [dayD l, .tup (k.map .str)] = .ok (.bl (someB k l)) [] := by
  have hs := size_is
  apply FO.eq_of
  show FO.Post _ _ _
  rw [fz_den]
  wp_walk using d_has_some, dayD
  refine pz_lc1 (ρ1 := [.v (.tup (l.map .str)), .v (.tup (k.map .str)), .n]) (ds := l.map .str) (fun _ => true) (inkD k) ?_ rfl (by rw [List.length_map]; omega) (fun x hx => ?_) (fun x hx _ => ?_) ?_
  · rfl
  · wp_walk
  · obtain ⟨z, hz, rfl⟩ := List.mem_map.mp hx
    wp_walk using inDs_map, inkD
  · wp_walk using filt_true, ink_map, blsOf_map, any_map_id
    rfl
theorem day_pos {h : List (List Str)} (hd : ∀ l ∈ h, l.Sublist k6) {d : D} (hm : d ∈ h.map dayD) : ∃ l, d = dayD l ∧ l ∈ h ∧ l.length ≤ 100 := by
  obtain ⟨l, h1, rfl⟩ := List.mem_map.mp hm
  have := (hd l h1).length_le
  have l6 : k6.length = 6 := rfl
  exact ⟨l, rfl, h1, by omega⟩
/-- is_last -/
theorem is_last_den {h : List (List Str)} {a b : List Str} (hd : ∀ l ∈ h, l.Sublist k6) : d_is_last.den [histD h, .tup (a.map .str), .tup (b.map .str)] = .ok (.bl (h.flatten.foldl (stepB a b) false)) [] := by
  have hs := size_is
  apply FO.eq_of
  show FO.Post _ _ _
  rw [fz_den]
  wp_walk using d_is_last, histD
  refine sz_forGo (z := .mk) (fun r ρ => ∃ (done rest : List (List Str)) (s4 s5 : Sl), h = done ++ rest ∧ r = rest.map dayD ∧ NO s4 ∧ NO s5 ∧ ρ = [.v (histD h), .v (.tup (a.map .str)), .v (.tup (b.map .str)), .v (.bl (done.flatten.foldl (stepB a b) false)), s4, s5]) ⟨[], h, .n, .n, rfl, rfl, rfl, rfl, rfl⟩ ?_ ?_
  · rintro d r ρ ⟨done, rest, s4, s5, e1, e2, n4, n5, rfl⟩
    cases rest with
    | nil => cases e2
    | cons l rest =>
      cases e2
      wp_walk using n4, n5, dayD
      refine sz_forGo (z := .mk) (fun r ρ => ∃ (dn rs : List Str) (s5 : Sl), l = dn ++ rs ∧ r = rs.map .str ∧ NO s5 ∧ ρ = [.v (histD h), .v (.tup (a.map .str)), .v (.tup (b.map .str)), .v (.bl (dn.foldl (stepB a b) (done.flatten.foldl (stepB a b) false))), .v (dayD l), s5]) ⟨[], l, s5, rfl, rfl, n5, rfl⟩ ?_ ?_
      · rintro d r ρ ⟨dn, rs, s5, f1, f2, n5, rfl⟩
        cases rs with
        | nil => cases f2
        | cons k rs =>
          cases f2
          wp_walk using n5, inDs_map
          have e : (dn ++ [k]).foldl (stepB a b) (done.flatten.foldl (stepB a b) false) = stepB a b (dn.foldl (stepB a b) (done.flatten.foldl (stepB a b) false)) k := by rw [List.foldl_append]; rfl
          by_cases g1 : k ∈ a
          · wp_walk using g1
            exact ⟨dn ++ [k], rs, .v (.str k), by rw [f1]; simp, rfl, rfl, by rw [e, stepB, if_pos g1]⟩
          · by_cases g2 : k ∈ b
            · wp_walk using g1, g2
              exact ⟨dn ++ [k], rs, .v (.str k), by rw [f1]; simp, rfl, rfl, by rw [e, stepB, if_neg g1, if_pos g2]⟩
            · wp_walk using g1, g2
              exact ⟨dn ++ [k], rs, .v (.str k), by rw [f1]; simp, rfl, rfl, by rw [e, stepB, if_neg g1, if_neg g2]⟩
      · rintro ρ ⟨dn, rs, s5, f1, f2, n5, rfl⟩
        have : rs = [] := List.map_eq_nil_iff.mp f2.symm
        subst this
        rw [List.append_nil] at f1
        subst f1
        exact ⟨done ++ [l], rest, .v (dayD l), s5, by rw [e1]; simp, rfl, rfl, n5, by rw [List.flatten_append, List.foldl_append]; simp⟩
  · rintro ρ ⟨done, rest, s4, s5, e1, e2, n4, n5, rfl⟩
    have : rest = [] := List.map_eq_nil_iff.mp e2.symm
    subst this
    rw [List.append_nil] at e1
    subst e1
    wp_walk
end K02
set_option Elab.async false
set_option maxRecDepth 100000
set_option maxHeartbeats 4000000
namespace K02
open PySem PySem.Spec L2 Ev
local macro_rules
  | `(tactic| wp_walk) => `(tactic| simp -dsimp only [↓w_den_int, ↓w_den_str, ↓w_den_bl, ↓w_den_non, ↓w_den_glo, ↓w_den_dict0, ↓w_den_lam, ↓w_con_at, ↓w_as_nil, ↓w_as_cons, ↓w_den_tup, ↓w_den_lst, ↓w_den_bin, ↓w_den_neg, ↓w_den_cmp, ↓w_tst_cmp, ↓w_den_chn, ↓w_tst_chn, ↓w_den_idx, ↓w_den_sli, ↓w_po_none_at, ↓w_po_some_at, ↓w_den_revT, ↓w_den_bfn, ↓w_den_tfn, ↓w_den_isi, ↓w_den_oidx, ↓w_den_olen, ↓w_den_new, ↓w_den_call, ↓w_den_call0, ↓w_den_callf, ↓w_den_callkw, ↓w_den_callv, ↓w_den_and, ↓w_den_or, ↓w_tst_and, ↓w_tst_or, ↓w_one_dAnd, ↓w_one_dOr, ↓w_one_tAnd, ↓w_one_tOr, ↓w_cons_dAnd, ↓w_cons_dOr, ↓w_cons_tAnd, ↓w_cons_tOr, ↓w_den_not, ↓w_tst_not, ↓w_den_ife, ↓w_den_repr, ↓w_tst_repr, ↓w_tst_var, ↓w_tst_isi, ↓w_tst_call, ↓w_tst_callv, ↓w_tst_bfn, ↓w_toD_at, ↓w_ar_nil, ↓w_ar_cons, ↓w_ar_own, ↓w_sr_val, ↓w_sr_enum, ↓w_sr_zip, ↓w_sr_range1, ↓w_cs_nil, ↓w_cs_one, ↓w_fx_lst, ↓w_fx_lc, ↓w_fx_call, ↓w_fx_listRg1, ↓w_den_gindex, ↓w_den_lindex, ↓w_bl_nil, ↓w_bl_cons, ↓w_sm_ret, ↓w_sm_retF, ↓w_sm_retO, ↓w_sm_ifs, ↓w_sm_for, ↓w_sm_set, ↓w_sm_asg, ↓w_sm_frz, ↓w_sm_parM, ↓w_sm_own, ↓w_sm_app, ↓w_sm_stuck, ↓w_ms_nil, ↓w_ms_v, ↓w_ms_f, ↓pz_ok, ↓pz_er, ↓pz_no, ↓pz_bind, ↓pz_ite, ↓sz_ite, ↓fz_ite, ↓sz_nx, ↓sz_bk, ↓sz_ct, ↓sz_rt, ↓sz_rf, ↓sz_er, ↓sz_no, ↓sz_after, ↓sz_next, ↓fz_ok, ↓fz_er, ↓fz_no, ↓pz_lift, ↓pz_var, ↓pz_dvar, ↓pz_dcon, ↓pz_dRepr, ↓pz_oidxD, ↓pz_olenD, ↓pz_callK, ↓pz_callfK, ↓pz_callF, ↓pz_callD, ↓pz_kwD, ↓pz_callvD, ↓sz_ownD, ↓sz_appD, ↓sz_retO, ↓sz_expr, ↓pz_kxnil, ↓pz_kxcons, ↓fz_cden, ↓oz_map, ↓oz_bind, ↓oz_if, ↓oz_ite, ↓pz_dChn, ↓pz_pop, ↓pz_oinD, ↓w_oin_den, ↓w_oin_tst, ↓w_fx_add, ↓w_fx_list, ↓w_fx_lc2, ↓w_den_didx, ↓w_den_lcount, ↓w_den_dc, if_F, wn_nx, wn_bk, wn_ct, wn_rt, wn_rf, wn_er, lp_nx, lp_bk, lp_ct, lp_rt, lp_rf, lp_er, df_nx, df_rt, df_rf, df_er, oz_some, oz_none, isO_n, isO_v, isO_o, slV_z, slV_s, slO_z, slO_s, slN_z, slN_s, isOwn_z, isOwn_s, lstAt_sl, nameD_sl, frzD_sl, fill_nil, fill_cons, put_nil, put_cons, outsE_nil, outsE_cons, kx_ks, kx_ks0, sem_den, sem_io, sem_fresh, sem_ar, csem_den, csem_io, csem_fresh, csem_ar, ar_nil_own, ar_cons_own, ar_own_own, tg_name, tg_tup, tg_sub, tgs_nil, tgs_cons, g_len, g_abs, g_max, g_min, g_divmod, g_all, g_any, g_sum, g_int, g_list, g_tuple, up, nilD, consD, putM, startE, start0, wipeE, noOwn, okF, e_lenD_tup, e_lenD_lst, e_lenD_scr, e_absD_int, e_maxD_int, e_minD_int, e_maxD_lst, e_minD_lst, e_divmodD_int, e_allD_lst, e_anyD_lst, e_sumD_lst, e_intD_int, e_intD_bl, e_listD_lst, e_listD_tup, e_listD_scr, e_tupleD_lst, e_tupleD_tup, e_idxD_tup, e_idxD_lst, e_idxD_scr, e_sliD_tup, e_sliD_lst, e_sliD_scr, e_revTD_tup, e_itemsOf_tup, e_itemsOf_lst, e_itemsOf_scr, e_itemsOf_str, e_enumD_lst, e_enumD_tup, e_zipsD_lst, e_zipsD_tup, e_r1D_int, e_ltD_int, e_ltD_str, e_leD_int, e_isNon_non, e_isNon_bl, e_isNon_int, e_isNon_str, e_isNon_tup, e_isNon_lst, e_isNon_dic, e_isD_bl, e_inD_strt, e_inD_strl, e_inD_intt, e_inD_intl, e_opAdd_int, e_opAdd_str, e_opAdd_tup, e_opAdd_lst, e_opSub_int, e_opMul_int, e_opFdiv_int, e_opMod_int, e_truth_non, e_truth_bl, e_truth_int, e_truth_tup, e_truth_lst, e_truth_dic, e_isL_lst, e_isLst_lst, e_mapB_def, e_cmpD_Lt, e_cmpD_Gt, e_cmpD_LtE, e_cmpD_GtE, e_cmpD_Eq, e_cmpD_NotEq, e_cmpD_In, e_cmpD_NotIn, e_cmpD_Is, e_cmpD_IsNot, e_binD_Add, e_binD_Sub, e_binD_Mult, e_binD_FloorDiv, e_binD_Mod, e_binD_Pow, e_isD_non, e_isi_tyInt_non, e_isi_tyInt_bl, e_isi_tyInt_int, e_isi_tyInt_str, e_isi_tyInt_tup, e_isi_tyInt_lst, e_isi_tyInt_scr, e_isi_tyInt_dic, e_isi_tyBool_non, e_isi_tyBool_bl, e_isi_tyBool_int, e_isi_tyBool_str, e_isi_tyBool_tup, e_isi_tyBool_lst, e_isi_tyBool_scr, e_isi_tyBool_dic, e_isi_tyStr_non, e_isi_tyStr_bl, e_isi_tyStr_int, e_isi_tyStr_str, e_isi_tyStr_tup, e_isi_tyStr_lst, e_isi_tyStr_scr, e_isi_tyStr_dic, e_isi_tyTuple_non, e_isi_tyTuple_bl, e_isi_tyTuple_int, e_isi_tyTuple_str, e_isi_tyTuple_tup, e_isi_tyTuple_lst, e_isi_tyTuple_scr, e_isi_tyTuple_dic, e_isi_tyList_non, e_isi_tyList_bl, e_isi_tyList_int, e_isi_tyList_str, e_isi_tyList_tup, e_isi_tyList_lst, e_isi_tyList_scr, e_isi_tyList_dic, e_isi_tyDict_non, e_isi_tyDict_bl, e_isi_tyDict_int, e_isi_tyDict_str, e_isi_tyDict_tup, e_isi_tyDict_lst, e_isi_tyDict_scr, e_isi_tyDict_dic, e_tup_n, List.set_cons_zero, List.set_cons_succ, List.set_nil, List.length_cons, List.length_nil, List.length_map, List.length_append, List.contains_nil, List.contains_cons, List.replicate_succ, List.replicate_zero, List.cons_append, List.nil_append, List.append_nil, List.map_cons, List.map_nil, List.all_cons, List.all_nil, List.lookup_cons, List.isEmpty_nil, List.isEmpty_cons, Option.getD_some, Option.getD_none, Option.map_some, Option.map_none, Option.bind_some, Option.bind_none, List.getD_cons_zero, List.getD_cons_succ, if_true, if_false, ite_true, ite_false, Bool.false_eq_true, reduceIte, reduceCtorEq, Bool.not_true, Bool.not_false, Bool.not_not, Bool.and_true, Bool.true_and, Bool.and_false, Bool.false_and, Bool.or_true, Bool.true_or, Bool.or_false, Bool.false_or, and_true, true_and, and_false, false_and, and_self, decide_true, decide_false, decide_eq_true_eq, Bool.not_eq_true', Bool.not_eq_eq_eq_not, Nat.zero_add, Nat.add_zero, Nat.reduceAdd, Nat.reduceSub, Nat.reduceLT, Nat.reduceLeDiff, Nat.reduceEqDiff, Nat.reduceBEq, Int.reduceLT, Int.reduceLE, Int.reduceEq, beq_self_eq_true, ne_eq, not_true_eq_false, not_false_eq_true, eq_self, Nat.zero_le, le_size, lt_size, fr_d__law_draw, ar_d__law_draw, io_d__law_draw, fr_d__law_kinds, ar_d__law_kinds, io_d__law_kinds, fr_d__law_of, ar_d__law_of, io_d__law_of, fr_d__law_unlike, ar_d__law_unlike, io_d__law_unlike, fr_d__law_history, ar_d__law_history, io_d__law_history, fr_d__law_atom_holds, ar_d__law_atom_holds, io_d__law_atom_holds, fr_d__law_is, ar_d__law_is, io_d__law_is, fr_d__law_some, ar_d__law_some, io_d__law_some, fr_d__law_atom, ar_d__law_atom, io_d__law_atom, fr_d__law_atoms, ar_d__law_atoms, io_d__law_atoms, fr_d__law_rule, ar_d__law_rule, io_d__law_rule, fr_d_is_ascending, ar_d_is_ascending, io_d_is_ascending, fr_d_is_one_of, ar_d_is_one_of, io_d_is_one_of, fr_d_is_day, ar_d_is_day, io_d_is_day, fr_d_wrong_at, ar_d_wrong_at, io_d_wrong_at, fr_d_wrong_day, ar_d_wrong_day, io_d_wrong_day, fr_d_check_history, ar_d_check_history, io_d_check_history, fr_d_trees_in, ar_d_trees_in, io_d_trees_in, fr_d_atoms_of, ar_d_atoms_of, io_d_atoms_of, fr_d_last_of, ar_d_last_of, io_d_last_of, fr_d_are_kinds, ar_d_are_kinds, io_d_are_kinds, fr_d_is_whole, ar_d_is_whole, io_d_is_whole, fr_d_is_number, ar_d_is_number, io_d_is_number, fr_d_is_atom, ar_d_is_atom, io_d_is_atom, fr_d_is_tuple_of, ar_d_is_tuple_of, io_d_is_tuple_of, fr_d_is_rule, ar_d_is_rule, io_d_is_rule, fr_d_check_rule, ar_d_check_rule, io_d_check_rule, fr_d_has_some, ar_d_has_some, io_d_has_some, fr_d_is_last, ar_d_is_last, io_d_is_last, fr_d_atom_holds, ar_d_atom_holds, io_d_atom_holds, fr_d_holds_for, ar_d_holds_for, io_d_holds_for, fr_d_holds, ar_d_holds, io_d_holds, fr_d__law_right, ar_d__law_right, io_d__law_right, fr_d__law_well, ar_d__law_well, io_d__law_well, fr_d_law, ar_d_law, io_d_law, fr_m__law_holds, ar_m__law_holds, io_m__law_holds, fs__law_holds, fa__law_holds, fd__law_holds, fr_m__law_nodes, ar_m__law_nodes, io_m__law_nodes, fs__law_nodes, fa__law_nodes, fd__law_nodes, fr_m__law_tree, ar_m__law_tree, io_m__law_tree, fs__law_tree, fa__law_tree, fd__law_tree, fr_m_all_atoms, ar_m_all_atoms, io_m_all_atoms, fs_all_atoms, fa_all_atoms, fd_all_atoms, fr_m_nodes_in, ar_m_nodes_in, io_m_nodes_in, fs_nodes_in, fa_nodes_in, fd_nodes_in, fr_m_holds_by, ar_m_holds_by, io_m_holds_by, fs_holds_by, fa_holds_by, fd_holds_by, ar_c_0, e_countD, e_lookD, e_catL, e_listL_lst, e_listL_tup, if_or, if_and, nc_0, nc_1, nc_2, nc_3, nc_4, nc_5, nc_6, nc_7, nc_8, nc_9, nc_10, nc_11, nc_12, or_true, true_or, or_false, false_or, or_self, nw_ever_after, nw_ever_within, nw_ever_times, nw_ever_not, nw_ever_all, nw_ever_any, nw_after_ever, nw_after_within, nw_after_times, nw_after_not, nw_after_all, nw_after_any, nw_within_ever, nw_within_after, nw_within_times, nw_within_not, nw_within_all, nw_within_any, nw_times_ever, nw_times_after, nw_times_within, nw_times_not, nw_times_all, nw_times_any, nw_not_ever, nw_not_after, nw_not_within, nw_not_times, nw_not_all, nw_not_any, nw_all_ever, nw_all_after, nw_all_within, nw_all_times, nw_all_not, nw_all_any, nw_any_ever, nw_any_after, nw_any_within, nw_any_times, nw_any_not, nw_any_all, subD_int, subD_var, ixN_0, ixN_1, ixN_2, at0, at1, at2, at3])
  | `(tactic| wp_walk using $ts,*) => `(tactic| simp -dsimp only [↓w_den_int, ↓w_den_str, ↓w_den_bl, ↓w_den_non, ↓w_den_glo, ↓w_den_dict0, ↓w_den_lam, ↓w_con_at, ↓w_as_nil, ↓w_as_cons, ↓w_den_tup, ↓w_den_lst, ↓w_den_bin, ↓w_den_neg, ↓w_den_cmp, ↓w_tst_cmp, ↓w_den_chn, ↓w_tst_chn, ↓w_den_idx, ↓w_den_sli, ↓w_po_none_at, ↓w_po_some_at, ↓w_den_revT, ↓w_den_bfn, ↓w_den_tfn, ↓w_den_isi, ↓w_den_oidx, ↓w_den_olen, ↓w_den_new, ↓w_den_call, ↓w_den_call0, ↓w_den_callf, ↓w_den_callkw, ↓w_den_callv, ↓w_den_and, ↓w_den_or, ↓w_tst_and, ↓w_tst_or, ↓w_one_dAnd, ↓w_one_dOr, ↓w_one_tAnd, ↓w_one_tOr, ↓w_cons_dAnd, ↓w_cons_dOr, ↓w_cons_tAnd, ↓w_cons_tOr, ↓w_den_not, ↓w_tst_not, ↓w_den_ife, ↓w_den_repr, ↓w_tst_repr, ↓w_tst_var, ↓w_tst_isi, ↓w_tst_call, ↓w_tst_callv, ↓w_tst_bfn, ↓w_toD_at, ↓w_ar_nil, ↓w_ar_cons, ↓w_ar_own, ↓w_sr_val, ↓w_sr_enum, ↓w_sr_zip, ↓w_sr_range1, ↓w_cs_nil, ↓w_cs_one, ↓w_fx_lst, ↓w_fx_lc, ↓w_fx_call, ↓w_fx_listRg1, ↓w_den_gindex, ↓w_den_lindex, ↓w_bl_nil, ↓w_bl_cons, ↓w_sm_ret, ↓w_sm_retF, ↓w_sm_retO, ↓w_sm_ifs, ↓w_sm_for, ↓w_sm_set, ↓w_sm_asg, ↓w_sm_frz, ↓w_sm_parM, ↓w_sm_own, ↓w_sm_app, ↓w_sm_stuck, ↓w_ms_nil, ↓w_ms_v, ↓w_ms_f, ↓pz_ok, ↓pz_er, ↓pz_no, ↓pz_bind, ↓pz_ite, ↓sz_ite, ↓fz_ite, ↓sz_nx, ↓sz_bk, ↓sz_ct, ↓sz_rt, ↓sz_rf, ↓sz_er, ↓sz_no, ↓sz_after, ↓sz_next, ↓fz_ok, ↓fz_er, ↓fz_no, ↓pz_lift, ↓pz_var, ↓pz_dvar, ↓pz_dcon, ↓pz_dRepr, ↓pz_oidxD, ↓pz_olenD, ↓pz_callK, ↓pz_callfK, ↓pz_callF, ↓pz_callD, ↓pz_kwD, ↓pz_callvD, ↓sz_ownD, ↓sz_appD, ↓sz_retO, ↓sz_expr, ↓pz_kxnil, ↓pz_kxcons, ↓fz_cden, ↓oz_map, ↓oz_bind, ↓oz_if, ↓oz_ite, ↓pz_dChn, ↓pz_pop, ↓pz_oinD, ↓w_oin_den, ↓w_oin_tst, ↓w_fx_add, ↓w_fx_list, ↓w_fx_lc2, ↓w_den_didx, ↓w_den_lcount, ↓w_den_dc, if_F, wn_nx, wn_bk, wn_ct, wn_rt, wn_rf, wn_er, lp_nx, lp_bk, lp_ct, lp_rt, lp_rf, lp_er, df_nx, df_rt, df_rf, df_er, oz_some, oz_none, isO_n, isO_v, isO_o, slV_z, slV_s, slO_z, slO_s, slN_z, slN_s, isOwn_z, isOwn_s, lstAt_sl, nameD_sl, frzD_sl, fill_nil, fill_cons, put_nil, put_cons, outsE_nil, outsE_cons, kx_ks, kx_ks0, sem_den, sem_io, sem_fresh, sem_ar, csem_den, csem_io, csem_fresh, csem_ar, ar_nil_own, ar_cons_own, ar_own_own, tg_name, tg_tup, tg_sub, tgs_nil, tgs_cons, g_len, g_abs, g_max, g_min, g_divmod, g_all, g_any, g_sum, g_int, g_list, g_tuple, up, nilD, consD, putM, startE, start0, wipeE, noOwn, okF, e_lenD_tup, e_lenD_lst, e_lenD_scr, e_absD_int, e_maxD_int, e_minD_int, e_maxD_lst, e_minD_lst, e_divmodD_int, e_allD_lst, e_anyD_lst, e_sumD_lst, e_intD_int, e_intD_bl, e_listD_lst, e_listD_tup, e_listD_scr, e_tupleD_lst, e_tupleD_tup, e_idxD_tup, e_idxD_lst, e_idxD_scr, e_sliD_tup, e_sliD_lst, e_sliD_scr, e_revTD_tup, e_itemsOf_tup, e_itemsOf_lst, e_itemsOf_scr, e_itemsOf_str, e_enumD_lst, e_enumD_tup, e_zipsD_lst, e_zipsD_tup, e_r1D_int, e_ltD_int, e_ltD_str, e_leD_int, e_isNon_non, e_isNon_bl, e_isNon_int, e_isNon_str, e_isNon_tup, e_isNon_lst, e_isNon_dic, e_isD_bl, e_inD_strt, e_inD_strl, e_inD_intt, e_inD_intl, e_opAdd_int, e_opAdd_str, e_opAdd_tup, e_opAdd_lst, e_opSub_int, e_opMul_int, e_opFdiv_int, e_opMod_int, e_truth_non, e_truth_bl, e_truth_int, e_truth_tup, e_truth_lst, e_truth_dic, e_isL_lst, e_isLst_lst, e_mapB_def, e_cmpD_Lt, e_cmpD_Gt, e_cmpD_LtE, e_cmpD_GtE, e_cmpD_Eq, e_cmpD_NotEq, e_cmpD_In, e_cmpD_NotIn, e_cmpD_Is, e_cmpD_IsNot, e_binD_Add, e_binD_Sub, e_binD_Mult, e_binD_FloorDiv, e_binD_Mod, e_binD_Pow, e_isD_non, e_isi_tyInt_non, e_isi_tyInt_bl, e_isi_tyInt_int, e_isi_tyInt_str, e_isi_tyInt_tup, e_isi_tyInt_lst, e_isi_tyInt_scr, e_isi_tyInt_dic, e_isi_tyBool_non, e_isi_tyBool_bl, e_isi_tyBool_int, e_isi_tyBool_str, e_isi_tyBool_tup, e_isi_tyBool_lst, e_isi_tyBool_scr, e_isi_tyBool_dic, e_isi_tyStr_non, e_isi_tyStr_bl, e_isi_tyStr_int, e_isi_tyStr_str, e_isi_tyStr_tup, e_isi_tyStr_lst, e_isi_tyStr_scr, e_isi_tyStr_dic, e_isi_tyTuple_non, e_isi_tyTuple_bl, e_isi_tyTuple_int, e_isi_tyTuple_str, e_isi_tyTuple_tup, e_isi_tyTuple_lst, e_isi_tyTuple_scr, e_isi_tyTuple_dic, e_isi_tyList_non, e_isi_tyList_bl, e_isi_tyList_int, e_isi_tyList_str, e_isi_tyList_tup, e_isi_tyList_lst, e_isi_tyList_scr, e_isi_tyList_dic, e_isi_tyDict_non, e_isi_tyDict_bl, e_isi_tyDict_int, e_isi_tyDict_str, e_isi_tyDict_tup, e_isi_tyDict_lst, e_isi_tyDict_scr, e_isi_tyDict_dic, e_tup_n, List.set_cons_zero, List.set_cons_succ, List.set_nil, List.length_cons, List.length_nil, List.length_map, List.length_append, List.contains_nil, List.contains_cons, List.replicate_succ, List.replicate_zero, List.cons_append, List.nil_append, List.append_nil, List.map_cons, List.map_nil, List.all_cons, List.all_nil, List.lookup_cons, List.isEmpty_nil, List.isEmpty_cons, Option.getD_some, Option.getD_none, Option.map_some, Option.map_none, Option.bind_some, Option.bind_none, List.getD_cons_zero, List.getD_cons_succ, if_true, if_false, ite_true, ite_false, Bool.false_eq_true, reduceIte, reduceCtorEq, Bool.not_true, Bool.not_false, Bool.not_not, Bool.and_true, Bool.true_and, Bool.and_false, Bool.false_and, Bool.or_true, Bool.true_or, Bool.or_false, Bool.false_or, and_true, true_and, and_false, false_and, and_self, decide_true, decide_false, decide_eq_true_eq, Bool.not_eq_true', Bool.not_eq_eq_eq_not, Nat.zero_add, Nat.add_zero, Nat.reduceAdd, Nat.reduceSub, Nat.reduceLT, Nat.reduceLeDiff, Nat.reduceEqDiff, Nat.reduceBEq, Int.reduceLT, Int.reduceLE, Int.reduceEq, beq_self_eq_true, ne_eq, not_true_eq_false, not_false_eq_true, eq_self, Nat.zero_le, le_size, lt_size, fr_d__law_draw, ar_d__law_draw, io_d__law_draw, fr_d__law_kinds, ar_d__law_kinds, io_d__law_kinds, fr_d__law_of, ar_d__law_of, io_d__law_of, fr_d__law_unlike, ar_d__law_unlike, io_d__law_unlike, fr_d__law_history, ar_d__law_history, io_d__law_history, fr_d__law_atom_holds, ar_d__law_atom_holds, io_d__law_atom_holds, fr_d__law_is, ar_d__law_is, io_d__law_is, fr_d__law_some, ar_d__law_some, io_d__law_some, fr_d__law_atom, ar_d__law_atom, io_d__law_atom, fr_d__law_atoms, ar_d__law_atoms, io_d__law_atoms, fr_d__law_rule, ar_d__law_rule, io_d__law_rule, fr_d_is_ascending, ar_d_is_ascending, io_d_is_ascending, fr_d_is_one_of, ar_d_is_one_of, io_d_is_one_of, fr_d_is_day, ar_d_is_day, io_d_is_day, fr_d_wrong_at, ar_d_wrong_at, io_d_wrong_at, fr_d_wrong_day, ar_d_wrong_day, io_d_wrong_day, fr_d_check_history, ar_d_check_history, io_d_check_history, fr_d_trees_in, ar_d_trees_in, io_d_trees_in, fr_d_atoms_of, ar_d_atoms_of, io_d_atoms_of, fr_d_last_of, ar_d_last_of, io_d_last_of, fr_d_are_kinds, ar_d_are_kinds, io_d_are_kinds, fr_d_is_whole, ar_d_is_whole, io_d_is_whole, fr_d_is_number, ar_d_is_number, io_d_is_number, fr_d_is_atom, ar_d_is_atom, io_d_is_atom, fr_d_is_tuple_of, ar_d_is_tuple_of, io_d_is_tuple_of, fr_d_is_rule, ar_d_is_rule, io_d_is_rule, fr_d_check_rule, ar_d_check_rule, io_d_check_rule, fr_d_has_some, ar_d_has_some, io_d_has_some, fr_d_is_last, ar_d_is_last, io_d_is_last, fr_d_atom_holds, ar_d_atom_holds, io_d_atom_holds, fr_d_holds_for, ar_d_holds_for, io_d_holds_for, fr_d_holds, ar_d_holds, io_d_holds, fr_d__law_right, ar_d__law_right, io_d__law_right, fr_d__law_well, ar_d__law_well, io_d__law_well, fr_d_law, ar_d_law, io_d_law, fr_m__law_holds, ar_m__law_holds, io_m__law_holds, fs__law_holds, fa__law_holds, fd__law_holds, fr_m__law_nodes, ar_m__law_nodes, io_m__law_nodes, fs__law_nodes, fa__law_nodes, fd__law_nodes, fr_m__law_tree, ar_m__law_tree, io_m__law_tree, fs__law_tree, fa__law_tree, fd__law_tree, fr_m_all_atoms, ar_m_all_atoms, io_m_all_atoms, fs_all_atoms, fa_all_atoms, fd_all_atoms, fr_m_nodes_in, ar_m_nodes_in, io_m_nodes_in, fs_nodes_in, fa_nodes_in, fd_nodes_in, fr_m_holds_by, ar_m_holds_by, io_m_holds_by, fs_holds_by, fa_holds_by, fd_holds_by, ar_c_0, e_countD, e_lookD, e_catL, e_listL_lst, e_listL_tup, if_or, if_and, nc_0, nc_1, nc_2, nc_3, nc_4, nc_5, nc_6, nc_7, nc_8, nc_9, nc_10, nc_11, nc_12, or_true, true_or, or_false, false_or, or_self, nw_ever_after, nw_ever_within, nw_ever_times, nw_ever_not, nw_ever_all, nw_ever_any, nw_after_ever, nw_after_within, nw_after_times, nw_after_not, nw_after_all, nw_after_any, nw_within_ever, nw_within_after, nw_within_times, nw_within_not, nw_within_all, nw_within_any, nw_times_ever, nw_times_after, nw_times_within, nw_times_not, nw_times_all, nw_times_any, nw_not_ever, nw_not_after, nw_not_within, nw_not_times, nw_not_all, nw_not_any, nw_all_ever, nw_all_after, nw_all_within, nw_all_times, nw_all_not, nw_all_any, nw_any_ever, nw_any_after, nw_any_within, nw_any_times, nw_any_not, nw_any_all, subD_int, subD_var, ixN_0, ixN_1, ixN_2, at0, at1, at2, at3, $[$ts:term],*])
/-! ### rules, drawn, are rules -/
theorem kinds_ok {k : List Str} (h : k.Sublist k6) (hn : k ≠ []) : kindsB 1 (.tup (k.map .str)) = true := by
  have hl := List.length_pos_iff.mpr hn
  show (decide (1 ≤ (k.map D.str).length) && isDayB (.tup (k.map .str))) = true
  rw [List.length_map, decide_eq_true (by omega), Bool.true_and, isDay_strs, decide_eq_true_eq]
  exact sub_filter h (by decide)
theorem atomV_B {l : Int} {d : D} (h : AtomV l d) : atomB d = true := by
  cases h with
  | ever k h1 h2 =>
    rw [atomB_str, kinds_ok h1 h2]
    rfl
  | after a b h1 h2 h3 h4 =>
    have hb : b.Sublist k6 := h3.trans List.filter_sublist
    rw [atomB_str, kinds_ok h1 h2]
    simp only [nw_after_ever, if_false, if_true, Bool.true_and]
    rw [kinds_ok hb h4, Bool.true_and, ← disj2, Bool.not_eq_true', List.any_eq_false]
    intro z hz
    have := (List.mem_filter.mp (h3.subset hz)).2
    simpa using this
  | within k n h1 h2 h3 h4 h5 =>
    rw [atomB_str, kinds_ok h1 h2]
    simp only [nw_within_ever, nw_within_after, if_false, if_true, Bool.true_and]
    show decide _ = true
    exact decide_eq_true ⟨h3, h4⟩
  | times k m n h1 h2 h3 h4 h5 h6 h7 =>
    rw [atomB_str, kinds_ok h1 h2]
    simp only [nw_times_ever, nw_times_after, nw_times_within, if_false, if_true, Bool.true_and]
    show (decide _ && decide _) = true
    rw [decide_eq_true ⟨h3, h4⟩, decide_eq_true ⟨h5, h6⟩]
    rfl
/-- some atoms, few, of few days -/
def AtsB (bs : List D) : Prop := bs ≠ [] ∧ bs.length ≤ 5 ∧ (∀ d ∈ bs, ∃ l, AtomV l d) ∧ (bs.map lastI).sum ≤ 8
theorem sum_snoc (bs : List D) (x : D) : ((bs ++ [x]).map lastI).sum = (bs.map lastI).sum + lastI x := by
  rw [List.map_append, List.sum_append]
  simp
theorem atoms_ok {a b c : Int} : (d__law_atoms.den [W3 a b c]).Ok fun r os => ∃ (bs : List D) (a' b' c' : Int), r = .lst bs ∧ AtsB bs ∧ os = [W3 a' b' c'] := by
  show FO.Post _ _ _
  rw [fz_den]
  wp_walk using d__law_atoms
  refine fz_mono (of_ok (.inl rfl) (by simp) (by simp)) ?_
  rintro x _ ⟨a1, b1, c1, hx, rfl⟩
  obtain ⟨n, rfl, h1, h2⟩ : ∃ n : Nat, x = .int (n : Int) ∧ 1 ≤ n ∧ n ≤ 5 := by
    simp only [List.mem_cons, List.not_mem_nil, or_false] at hx
    rcases hx with rfl | rfl | rfl | rfl | rfl | rfl | rfl
    · exact ⟨1, rfl, by omega, by omega⟩
    · exact ⟨2, rfl, by omega, by omega⟩
    · exact ⟨2, rfl, by omega, by omega⟩
    · exact ⟨3, rfl, by omega, by omega⟩
    · exact ⟨3, rfl, by omega, by omega⟩
    · exact ⟨4, rfl, by omega, by omega⟩
    · exact ⟨5, rfl, by omega, by omega⟩
  wp_walk using rng_nat (n := n) (by omega)
  refine sz_forGo (z := .mk) (fun r ρ => ∃ (bs : List D) (l a b c : Int) (s : Sl), bs.length + r.length = n ∧ 0 ≤ l ∧ l ≤ 8 ∧ (bs.map lastI).sum + l = 8 ∧ NO s ∧ (∀ d ∈ bs, ∃ l, AtomV l d) ∧ ρ = [.o (W3 a b c), .o (.lst bs), .v (.int l), s]) ⟨[], 8, a1, b1, c1, .n, by simp [upFrom_length], by omega, by omega, rfl, rfl, (fun _ h => nomatch h), rfl⟩ ?_ ?_
  · rintro d r ρ ⟨bs, l, a, b, c, s, e1, e0, e2, e3, n3, e4, rfl⟩
    rw [List.length_cons] at e1
    wp_walk using n3
    refine fz_mono (atom_ok (by omega)) ?_
    rintro x _ ⟨a2, b2, c2, hx, rfl⟩
    have all2 : ∀ d ∈ bs ++ [x], ∃ l, AtomV l d := fun d hd => by
      rcases List.mem_append.mp hd with z | z
      · exact e4 d z
      · rw [List.mem_singleton.mp z]; exact ⟨_, hx⟩
    have lb : bs.length < 16777216 := by omega
    cases hx with
    | ever k g1 g2 =>
      wp_walk using at_last, inDs2, lb
      exact ⟨_, _, a2, b2, c2, _, by simp; omega, by omega, by omega, by rw [sum_snoc, show lastI (.tup [.str "ever", .tup (k.map .str)]) = 0 from rfl]; omega, rfl, all2, rfl⟩
    | after k m g1 g2 g3 g4 =>
      wp_walk using at_last, inDs2, lb
      exact ⟨_, _, a2, b2, c2, _, by simp; omega, by omega, by omega, by rw [sum_snoc, show lastI (.tup [.str "after", .tup (k.map .str), .tup (m.map .str)]) = 0 from rfl]; omega, rfl, all2, rfl⟩
    | within k m g1 g2 g3 g4 g5 =>
      wp_walk using at_last, inDs2, lb, at_l3
      exact ⟨_, _, a2, b2, c2, _, by simp; omega, by omega, by omega, by rw [sum_snoc, lastI3, if_pos rfl]; omega, rfl, all2, rfl⟩
    | times k m j g1 g2 g3 g4 g5 g6 g7 =>
      wp_walk using at_last, inDs2, lb, at_l4
      exact ⟨_, _, a2, b2, c2, _, by simp; omega, by omega, by omega, by rw [sum_snoc, lastI4, if_pos rfl]; omega, rfl, all2, rfl⟩
  · rintro ρ ⟨bs, l, a, b, c, s, e1, e0, e2, e3, n3, e4, rfl⟩
    wp_walk
    exact ⟨bs, a, b, c, rfl, ⟨fun z => by rw [z] at e1; simp at e1; omega, by simp at e1; omega, e4, by omega⟩, rfl⟩
/-- a tree of atoms of bs, of so many levels and nodes -/
def TrB (bs : List D) (lv : Nat) (most : Int) (d : D) : Prop := treeB lv d = true ∧ (nodesN lv d : Int) ≤ most ∧ ∀ x ∈ atomsL lv d, x ∈ bs
theorem TrB.leaf {bs : List D} {lv : Nat} {most : Int} {d : D} {l : Int} (h : AtomV l d) (hb : d ∈ bs) (hm : 1 ≤ most) : TrB bs (lv + 1) most d := by
  have ha := atomV_B h
  cases h <;> (
    rw [TrB, treeB_s, nodesN_s, atomsL_s]
    simp only [nw_ever_not, nw_ever_all, nw_ever_any, nw_after_not, nw_after_all, nw_after_any, nw_within_not, nw_within_all, nw_within_any, nw_times_not, nw_times_all, nw_times_any, if_false, or_self]
    refine ⟨ha, by omega, fun x hx => ?_⟩
    rw [List.mem_singleton] at hx
    rw [hx]
    exact hb)
theorem TrB.not {bs : List D} {lv : Nat} {most : Int} {d : D} (h : TrB bs lv most d) : TrB bs (lv + 1) (most + 1) (.tup [.str "not", d]) := by
  obtain ⟨h1, h2, h3⟩ := h
  rw [TrB, treeB_s, nodesN_s, atomsL_s, if_pos rfl, if_pos rfl, if_pos rfl]
  exact ⟨by rw [h1]; rfl, by omega, h3⟩
theorem TrB.all {bs : List D} {lv : Nat} {ds : List D} (w : Str) (hw : w = "all" ∨ w = "any") (h1 : ∀ d ∈ ds, treeB lv d = true ∧ ∀ x ∈ atomsL lv d, x ∈ bs) (h2 : 1 ≤ ds.length) (h3 : ds.length ≤ 6) : TrB bs (lv + 1) (1 + ((ds.map (nodesN lv)).sum : Nat)) (.tup [.str w, .tup ds]) := by
  have hn : ¬ w = "not" := by rcases hw with rfl | rfl <;> simp [nw_all_not, nw_any_not]
  rw [TrB, treeB_s, nodesN_s, atomsL_s, if_neg hn, if_neg hn, if_neg hn, if_pos hw, if_pos hw, if_pos hw]
  refine ⟨?_, ?_, ?_⟩
  · show (true && decide (1 ≤ ds.length ∧ ds.length ≤ 6) && ds.all (treeB lv)) = true
    rw [decide_eq_true ⟨h2, h3⟩, Bool.true_and, Bool.true_and, List.all_eq_true]
    exact fun d hd => (h1 d hd).1
  · show (((1 + (ds.map (nodesN lv)).sum : Nat)) : Int) ≤ _
    omega
  · intro x hx
    obtain ⟨d, hd, hx⟩ := List.mem_flatMap.mp (show x ∈ ds.flatMap (atomsL lv) from hx)
    exact (h1 d hd).2 x hx
theorem tree_ok {bs : List D} (hb : AtsB bs) : ∀ (lv k : Nat), 1 ≤ lv → lv < k → lv ≤ 12 → ∀ (a b c most : Int), 1 ≤ most → most ≤ 1000 → (recDen m__law_tree k [W3 a b c, .lst bs, .int most, .int (lv : Int)]).Ok fun r os => ∃ (a' b' c' : Int), TrB bs lv most r ∧ os = [W3 a' b' c']
  | lv, 0, _, hk, _, _, _, _, _, _, _ => absurd hk (Nat.not_lt_zero _)
  | lv, k + 1, hv1, hk, hlv, a, b, c, most, hm1, hm => by
    have one : ∀ (a b c : Int), (d__law_of.den [W3 a b c, .lst bs]).Ok fun r os => ∃ (a' b' c' : Int), TrB bs lv most r ∧ os = [W3 a' b' c'] := fun a b c => by
      refine FO.Ok.mono (of_ok (.inr rfl) hb.1 (by have := hb.2.1; omega)) ?_
      rintro r os ⟨a', b', c', h, rfl⟩
      obtain ⟨l, hl⟩ := hb.2.2.1 r h
      obtain ⟨lv, rfl⟩ : ∃ j, lv = j + 1 := ⟨lv - 1, by omega⟩
      exact ⟨a', b', c', .leaf hl h hm1, rfl⟩
    show FO.Post _ _ _
    rw [fz_recDen]
    wp_walk using m__law_tree
    split
    · refine fz_mono (one _ _ _) ?_
      rintro r _ ⟨a1, b1, c1, h, rfl⟩
      wp_walk
      exact ⟨a1, b1, c1, h, rfl⟩
    rename_i h0
    have h0 : ¬ (most < 2) ∧ ¬ ((lv : Int) < 2) := by omega
    obtain ⟨lv, rfl⟩ : ∃ j, lv = j + 1 := ⟨lv - 1, by omega⟩
    have el : ((lv + 1 : Nat) : Int) - 1 = (lv : Int) := by omega
    refine fz_mono (draw_ok (by omega) (by omega)) ?_
    rintro _ _ ⟨i, a1, b1, c1, rfl, rfl, h1, h2⟩
    wp_walk using eqD_int
    split
    · refine fz_mono (one _ _ _) ?_
      rintro r _ ⟨a1, b1, c1, h, rfl⟩
      wp_walk
      exact ⟨a1, b1, c1, h, rfl⟩
    refine fz_mono (draw_ok (by omega) (by omega)) ?_
    rintro _ _ ⟨i2, a2, b2, c2, rfl, rfl, h3, h4⟩
    wp_walk using eqD_int
    split
    · wp_walk using el
      refine fz_mono (tree_ok hb lv k (by omega) (by omega) (by omega) _ _ _ _ (by omega) (by omega)) ?_
      rintro r _ ⟨a3, b3, c3, h, rfl⟩
      wp_walk
      have h := h.not
      rw [Int.sub_add_cancel] at h
      exact ⟨a3, b3, c3, h, rfl⟩
    refine fz_mono (draw_ok (by omega) (by omega)) ?_
    rintro _ _ ⟨i3, a3, b3, c3, rfl, rfl, h5, h6⟩
    obtain ⟨m, hm3⟩ := Int.eq_ofNat_of_zero_le (a := 1 + i3) (by omega)
    wp_walk using hm3, rng_nat (n := m) (by omega)
    refine sz_forGo (z := .mk) (fun r ρ => ∃ (fs : List D) (l a b c : Int) (s : Sl), fs.length + r.length ≤ 6 ∧ 0 ≤ l ∧ (((fs.map (nodesN lv)).sum : Nat) : Int) + l = most - 1 ∧ (1 ≤ fs.length ∨ 1 ≤ r.length ∧ 1 ≤ l) ∧ NO s ∧ (∀ d ∈ fs, treeB lv d = true ∧ ∀ x ∈ atomsL lv d, x ∈ bs) ∧ ρ = [.o (W3 a b c), .v (.lst bs), .v (.int most), .v (.int ((lv + 1 : Nat) : Int)), .o (.lst fs), .v (.int l), s]) ⟨[], most - 1, a3, b3, c3, .n, by simp [upFrom_length]; omega, by omega, by simp, .inr ⟨by simp [upFrom_length]; omega, by omega⟩, rfl, (fun _ h => nomatch h), rfl⟩ ?_ ?_
    · rintro d r ρ ⟨fs, l, a, b, c, s, e1, e0, e2, e3, n3, e4, rfl⟩
      rw [List.length_cons] at e1
      wp_walk using n3
      split
      · rename_i hl0
        refine fz_mono (draw_ok (by omega) (by omega)) ?_
        rintro _ _ ⟨i4, a4, b4, c4, rfl, rfl, h7, h8⟩
        wp_walk using el
        refine fz_mono (tree_ok hb lv k (by omega) (by omega) (by omega) _ _ _ _ (by split <;> omega) (by split <;> omega)) ?_
        rintro x _ ⟨a5, b5, c5, ⟨g1, g2, g3⟩, rfl⟩
        have g2 : (nodesN lv x : Int) ≤ l := by split at g2 <;> omega
        have lb : fs.length < 16777216 := by omega
        wp_walk using lb, at_last, law_nodes_den 16 (by omega) g1
        refine ⟨fs ++ [x], _, a5, b5, c5, _, by simp; omega, by omega, ?_, .inl (by simp), rfl, fun d hd => ?_, rfl⟩
        · rw [List.map_append, List.sum_append]
          simp
          omega
        · rcases List.mem_append.mp hd with z | z
          · exact e4 d z
          · rw [List.mem_singleton.mp z]; exact ⟨g1, g3⟩
      · rename_i hl0
        exact ⟨fs, l, a, b, c, .v d, by omega, e0, e2, .inl (by omega), rfl, e4, rfl⟩
    · rintro ρ ⟨fs, l, a, b, c, s, e1, e0, e2, e3, n3, e4, rfl⟩
      wp_walk
      refine fz_mono (of_ok (.inl rfl) (by simp) (by simp)) ?_
      rintro w _ ⟨a4, b4, c4, hw, rfl⟩
      simp only [List.mem_cons, List.not_mem_nil, or_false] at hw
      have hl6 : fs.length ≤ 6 := by simp at e1; omega
      have hl1 : 1 ≤ fs.length := by simp at e3; omega
      have fin : ∀ w : Str, w = "all" ∨ w = "any" → TrB bs (lv + 1) most (.tup [.str w, .tup fs]) := fun w hw => by
        obtain ⟨q1, q2, q3⟩ := TrB.all w hw e4 hl1 hl6
        exact ⟨q1, by omega, q3⟩
      rcases hw with rfl | rfl
      · wp_walk
        exact ⟨a4, b4, c4, fin _ (.inl rfl), rfl⟩
      · wp_walk
        exact ⟨a4, b4, c4, fin _ (.inr rfl), rfl⟩
/-- each thing of a deduped row is one of bs, no two alike: no longer, no greater -/
theorem eqv_self {d : D} (h : AtomP d) : PyData.eqv d.toP d.toP = true := by
  have st : ∀ k : List Str, PyData.eqvAll (Ds.toP (k.map .str)) (Ds.toP (k.map .str)) = true := fun k => by
    rw [eqvAll_strs k (strs_data k), strsOf_map]
    simp
  cases h <;> simp [D.toP, Ds.toP, PyData.eqv, PyData.eqvAll, st]
theorem seen_self {d : D} {acc : List D} (hd : AtomP d) (hm : d ∈ acc) : seenB d acc = true := by
  unfold seenB
  rw [List.any_eq_true]
  exact ⟨d, hm, eqv_self hd⟩
theorem dd_nodup : ∀ {r acc : List D}, (∀ x ∈ r, AtomP x) → acc.Nodup → (dd acc r).Nodup
  | [], acc, _, h => h
  | d :: r, acc, hr, h => by
    show (dd (if seenB d acc = true then acc else acc ++ [d]) r).Nodup
    refine dd_nodup (fun x hx => hr x (List.mem_cons_of_mem _ hx)) ?_
    split
    · exact h
    · rename_i hs
      rw [List.nodup_append]
      refine ⟨h, by simp, fun x hx y hy => ?_⟩
      rw [List.mem_singleton] at hy
      subst hy
      intro e
      subst e
      exact hs (seen_self (hr _ List.mem_cons_self) hx)
theorem nodup_le : ∀ {xs bs : List D}, xs.Nodup → (∀ x ∈ xs, x ∈ bs) → (∀ x ∈ bs, 0 ≤ lastI x) → xs.length ≤ bs.length ∧ (xs.map lastI).sum ≤ (bs.map lastI).sum
  | [], bs, _, _, h => ⟨Nat.zero_le _, by
    induction bs with
    | nil => exact Int.le_refl _
    | cons b bs ih =>
      have h1 := h b List.mem_cons_self
      have h2 := ih (fun _ z => nomatch z) fun x hx => h x (List.mem_cons_of_mem _ hx)
      simp only [List.map_cons, List.sum_cons, List.map_nil, List.sum_nil] at h2 ⊢
      omega⟩
  | x :: xs, bs, hn, hs, h => by
    obtain ⟨s, t, rfl⟩ := List.append_of_mem (hs x List.mem_cons_self)
    have hn := List.nodup_cons.mp hn
    have q := nodup_le (xs := xs) (bs := s ++ t) hn.2 (fun y hy => by
      have := hs y (List.mem_cons_of_mem _ hy)
      rw [List.mem_append, List.mem_cons] at this
      rw [List.mem_append]
      rcases this with z | z | z
      · exact .inl z
      · rw [z] at hy; exact absurd hy hn.1
      · exact .inr z) (fun y hy => h y (by
      rw [List.mem_append] at hy
      rw [List.mem_append, List.mem_cons]
      rcases hy with z | z
      · exact .inl z
      · exact .inr (.inr z)))
    simp only [List.map_append, List.sum_append, List.length_append, List.length_cons, List.map_cons, List.sum_cons] at q ⊢
    omega
theorem last_nonneg {l : Int} {d : D} (h : AtomV l d) : 0 ≤ lastI d := by
  cases h with
  | ever k h1 h2 => exact Int.le_refl _
  | after a b h1 h2 h3 h4 => exact Int.le_refl _
  | within k n h1 h2 h3 h4 h5 => rw [lastI3, if_pos rfl]; omega
  | times k m n h1 h2 h3 h4 h5 h6 h7 => rw [lastI4, if_pos rfl]; omega
theorem rule_B {bs : List D} {r : D} (hb : AtsB bs) (h : TrB bs 4 10 r) : ruleB r = true := by
  obtain ⟨h1, h2, h3⟩ := h
  have hm : ∀ x ∈ onceL r, x ∈ bs := fun x hx => by
    rcases dd_mem hx with z | z
    · cases z
    · exact h3 x z
  have q := nodup_le (xs := onceL r) (bs := bs) (dd_nodup (atomsP h1) List.nodup_nil) hm fun x hx => by
    obtain ⟨l, hl⟩ := hb.2.2.1 x hx
    exact last_nonneg hl
  have h5 := hb.2.1
  have h8 := hb.2.2.2
  unfold ruleB
  rw [h1, decide_eq_true (show nodesN 4 r ≤ 10 by omega), decide_eq_true (show (onceL r).length ≤ 5 by omega), decide_eq_true (show ((onceL r).map lastI).sum ≤ 8 by omega)]
  rfl
theorem TrB.mono {bs : List D} {lv : Nat} {m n : Int} {d : D} (h : TrB bs lv m d) (l : m ≤ n) : TrB bs lv n d := ⟨h.1, by have := h.2.1; omega, h.2.2⟩
/-- _law_rule: a rule -/
theorem rule_ok {a b c : Int} : (d__law_rule.den [W3 a b c]).Ok fun r os => ∃ (a' b' c' : Int), ruleB r = true ∧ os = [W3 a' b' c'] := by
  show FO.Post _ _ _
  rw [fz_den]
  wp_walk using d__law_rule
  refine fz_mono atoms_ok ?_
  rintro _ _ ⟨bs, a1, b1, c1, rfl, hb, rfl⟩
  wp_walk
  refine fz_mono (of_ok (.inl rfl) (by simp) (by simp)) ?_
  rintro x _ ⟨a2, b2, c2, hx, rfl⟩
  obtain ⟨n, rfl, h1, h2⟩ : ∃ n : Int, x = .int n ∧ 1 ≤ n ∧ n ≤ 10 := by
    simp only [List.mem_cons, List.not_mem_nil, or_false] at hx
    rcases hx with rfl | rfl | rfl | rfl | rfl <;> exact ⟨_, rfl, by omega, by omega⟩
  wp_walk
  refine fz_mono (tree_ok hb 4 16 (by omega) (by omega) (by omega) _ _ _ _ h1 (by omega)) ?_
  rintro r _ ⟨a3, b3, c3, h, rfl⟩
  wp_walk
  exact ⟨a3, b3, c3, rule_B hb (h.mono h2), rfl⟩
end K02
set_option Elab.async false
set_option maxRecDepth 100000
set_option maxHeartbeats 4000000
namespace K02
open PySem PySem.Spec L2 Ev
local macro_rules
  | `(tactic| wp_walk) => `(tactic| simp -dsimp only [↓w_den_int, ↓w_den_str, ↓w_den_bl, ↓w_den_non, ↓w_den_glo, ↓w_den_dict0, ↓w_den_lam, ↓w_con_at, ↓w_as_nil, ↓w_as_cons, ↓w_den_tup, ↓w_den_lst, ↓w_den_bin, ↓w_den_neg, ↓w_den_cmp, ↓w_tst_cmp, ↓w_den_chn, ↓w_tst_chn, ↓w_den_idx, ↓w_den_sli, ↓w_po_none_at, ↓w_po_some_at, ↓w_den_revT, ↓w_den_bfn, ↓w_den_tfn, ↓w_den_isi, ↓w_den_oidx, ↓w_den_olen, ↓w_den_new, ↓w_den_call, ↓w_den_call0, ↓w_den_callf, ↓w_den_callkw, ↓w_den_callv, ↓w_den_and, ↓w_den_or, ↓w_tst_and, ↓w_tst_or, ↓w_one_dAnd, ↓w_one_dOr, ↓w_one_tAnd, ↓w_one_tOr, ↓w_cons_dAnd, ↓w_cons_dOr, ↓w_cons_tAnd, ↓w_cons_tOr, ↓w_den_not, ↓w_tst_not, ↓w_den_ife, ↓w_den_repr, ↓w_tst_repr, ↓w_tst_var, ↓w_tst_isi, ↓w_tst_call, ↓w_tst_callv, ↓w_tst_bfn, ↓w_toD_at, ↓w_ar_nil, ↓w_ar_cons, ↓w_ar_own, ↓w_sr_val, ↓w_sr_enum, ↓w_sr_zip, ↓w_sr_range1, ↓w_cs_nil, ↓w_cs_one, ↓w_fx_lst, ↓w_fx_lc, ↓w_fx_call, ↓w_fx_listRg1, ↓w_den_gindex, ↓w_den_lindex, ↓w_bl_nil, ↓w_bl_cons, ↓w_sm_ret, ↓w_sm_retF, ↓w_sm_retO, ↓w_sm_ifs, ↓w_sm_for, ↓w_sm_set, ↓w_sm_asg, ↓w_sm_frz, ↓w_sm_parM, ↓w_sm_own, ↓w_sm_app, ↓w_sm_stuck, ↓w_ms_nil, ↓w_ms_v, ↓w_ms_f, ↓pz_ok, ↓pz_er, ↓pz_no, ↓pz_bind, ↓pz_ite, ↓sz_ite, ↓fz_ite, ↓sz_nx, ↓sz_bk, ↓sz_ct, ↓sz_rt, ↓sz_rf, ↓sz_er, ↓sz_no, ↓sz_after, ↓sz_next, ↓fz_ok, ↓fz_er, ↓fz_no, ↓pz_lift, ↓pz_var, ↓pz_dvar, ↓pz_dcon, ↓pz_dRepr, ↓pz_oidxD, ↓pz_olenD, ↓pz_callK, ↓pz_callfK, ↓pz_callF, ↓pz_callD, ↓pz_kwD, ↓pz_callvD, ↓sz_ownD, ↓sz_appD, ↓sz_retO, ↓sz_expr, ↓pz_kxnil, ↓pz_kxcons, ↓fz_cden, ↓oz_map, ↓oz_bind, ↓oz_if, ↓oz_ite, ↓pz_dChn, ↓pz_pop, ↓pz_oinD, ↓w_oin_den, ↓w_oin_tst, ↓w_fx_add, ↓w_fx_list, ↓w_fx_lc2, ↓w_den_didx, ↓w_den_lcount, ↓w_den_dc, if_F, wn_nx, wn_bk, wn_ct, wn_rt, wn_rf, wn_er, lp_nx, lp_bk, lp_ct, lp_rt, lp_rf, lp_er, df_nx, df_rt, df_rf, df_er, oz_some, oz_none, isO_n, isO_v, isO_o, slV_z, slV_s, slO_z, slO_s, slN_z, slN_s, isOwn_z, isOwn_s, lstAt_sl, nameD_sl, frzD_sl, fill_nil, fill_cons, put_nil, put_cons, outsE_nil, outsE_cons, kx_ks, kx_ks0, sem_den, sem_io, sem_fresh, sem_ar, csem_den, csem_io, csem_fresh, csem_ar, ar_nil_own, ar_cons_own, ar_own_own, tg_name, tg_tup, tg_sub, tgs_nil, tgs_cons, g_len, g_abs, g_max, g_min, g_divmod, g_all, g_any, g_sum, g_int, g_list, g_tuple, up, nilD, consD, putM, startE, start0, wipeE, noOwn, okF, e_lenD_tup, e_lenD_lst, e_lenD_scr, e_absD_int, e_maxD_int, e_minD_int, e_maxD_lst, e_minD_lst, e_divmodD_int, e_allD_lst, e_anyD_lst, e_sumD_lst, e_intD_int, e_intD_bl, e_listD_lst, e_listD_tup, e_listD_scr, e_tupleD_lst, e_tupleD_tup, e_idxD_tup, e_idxD_lst, e_idxD_scr, e_sliD_tup, e_sliD_lst, e_sliD_scr, e_revTD_tup, e_itemsOf_tup, e_itemsOf_lst, e_itemsOf_scr, e_itemsOf_str, e_enumD_lst, e_enumD_tup, e_zipsD_lst, e_zipsD_tup, e_r1D_int, e_ltD_int, e_ltD_str, e_leD_int, e_isNon_non, e_isNon_bl, e_isNon_int, e_isNon_str, e_isNon_tup, e_isNon_lst, e_isNon_dic, e_isD_bl, e_inD_strt, e_inD_strl, e_inD_intt, e_inD_intl, e_opAdd_int, e_opAdd_str, e_opAdd_tup, e_opAdd_lst, e_opSub_int, e_opMul_int, e_opFdiv_int, e_opMod_int, e_truth_non, e_truth_bl, e_truth_int, e_truth_tup, e_truth_lst, e_truth_dic, e_isL_lst, e_isLst_lst, e_mapB_def, e_cmpD_Lt, e_cmpD_Gt, e_cmpD_LtE, e_cmpD_GtE, e_cmpD_Eq, e_cmpD_NotEq, e_cmpD_In, e_cmpD_NotIn, e_cmpD_Is, e_cmpD_IsNot, e_binD_Add, e_binD_Sub, e_binD_Mult, e_binD_FloorDiv, e_binD_Mod, e_binD_Pow, e_isD_non, e_isi_tyInt_non, e_isi_tyInt_bl, e_isi_tyInt_int, e_isi_tyInt_str, e_isi_tyInt_tup, e_isi_tyInt_lst, e_isi_tyInt_scr, e_isi_tyInt_dic, e_isi_tyBool_non, e_isi_tyBool_bl, e_isi_tyBool_int, e_isi_tyBool_str, e_isi_tyBool_tup, e_isi_tyBool_lst, e_isi_tyBool_scr, e_isi_tyBool_dic, e_isi_tyStr_non, e_isi_tyStr_bl, e_isi_tyStr_int, e_isi_tyStr_str, e_isi_tyStr_tup, e_isi_tyStr_lst, e_isi_tyStr_scr, e_isi_tyStr_dic, e_isi_tyTuple_non, e_isi_tyTuple_bl, e_isi_tyTuple_int, e_isi_tyTuple_str, e_isi_tyTuple_tup, e_isi_tyTuple_lst, e_isi_tyTuple_scr, e_isi_tyTuple_dic, e_isi_tyList_non, e_isi_tyList_bl, e_isi_tyList_int, e_isi_tyList_str, e_isi_tyList_tup, e_isi_tyList_lst, e_isi_tyList_scr, e_isi_tyList_dic, e_isi_tyDict_non, e_isi_tyDict_bl, e_isi_tyDict_int, e_isi_tyDict_str, e_isi_tyDict_tup, e_isi_tyDict_lst, e_isi_tyDict_scr, e_isi_tyDict_dic, e_tup_n, List.set_cons_zero, List.set_cons_succ, List.set_nil, List.length_cons, List.length_nil, List.length_map, List.length_append, List.contains_nil, List.contains_cons, List.replicate_succ, List.replicate_zero, List.cons_append, List.nil_append, List.append_nil, List.map_cons, List.map_nil, List.all_cons, List.all_nil, List.lookup_cons, List.isEmpty_nil, List.isEmpty_cons, Option.getD_some, Option.getD_none, Option.map_some, Option.map_none, Option.bind_some, Option.bind_none, List.getD_cons_zero, List.getD_cons_succ, if_true, if_false, ite_true, ite_false, Bool.false_eq_true, reduceIte, reduceCtorEq, Bool.not_true, Bool.not_false, Bool.not_not, Bool.and_true, Bool.true_and, Bool.and_false, Bool.false_and, Bool.or_true, Bool.true_or, Bool.or_false, Bool.false_or, and_true, true_and, and_false, false_and, and_self, decide_true, decide_false, decide_eq_true_eq, Bool.not_eq_true', Bool.not_eq_eq_eq_not, Nat.zero_add, Nat.add_zero, Nat.reduceAdd, Nat.reduceSub, Nat.reduceLT, Nat.reduceLeDiff, Nat.reduceEqDiff, Nat.reduceBEq, Int.reduceLT, Int.reduceLE, Int.reduceEq, beq_self_eq_true, ne_eq, not_true_eq_false, not_false_eq_true, eq_self, Nat.zero_le, le_size, lt_size, fr_d__law_draw, ar_d__law_draw, io_d__law_draw, fr_d__law_kinds, ar_d__law_kinds, io_d__law_kinds, fr_d__law_of, ar_d__law_of, io_d__law_of, fr_d__law_unlike, ar_d__law_unlike, io_d__law_unlike, fr_d__law_history, ar_d__law_history, io_d__law_history, fr_d__law_atom_holds, ar_d__law_atom_holds, io_d__law_atom_holds, fr_d__law_is, ar_d__law_is, io_d__law_is, fr_d__law_some, ar_d__law_some, io_d__law_some, fr_d__law_atom, ar_d__law_atom, io_d__law_atom, fr_d__law_atoms, ar_d__law_atoms, io_d__law_atoms, fr_d__law_rule, ar_d__law_rule, io_d__law_rule, fr_d_is_ascending, ar_d_is_ascending, io_d_is_ascending, fr_d_is_one_of, ar_d_is_one_of, io_d_is_one_of, fr_d_is_day, ar_d_is_day, io_d_is_day, fr_d_wrong_at, ar_d_wrong_at, io_d_wrong_at, fr_d_wrong_day, ar_d_wrong_day, io_d_wrong_day, fr_d_check_history, ar_d_check_history, io_d_check_history, fr_d_trees_in, ar_d_trees_in, io_d_trees_in, fr_d_atoms_of, ar_d_atoms_of, io_d_atoms_of, fr_d_last_of, ar_d_last_of, io_d_last_of, fr_d_are_kinds, ar_d_are_kinds, io_d_are_kinds, fr_d_is_whole, ar_d_is_whole, io_d_is_whole, fr_d_is_number, ar_d_is_number, io_d_is_number, fr_d_is_atom, ar_d_is_atom, io_d_is_atom, fr_d_is_tuple_of, ar_d_is_tuple_of, io_d_is_tuple_of, fr_d_is_rule, ar_d_is_rule, io_d_is_rule, fr_d_check_rule, ar_d_check_rule, io_d_check_rule, fr_d_has_some, ar_d_has_some, io_d_has_some, fr_d_is_last, ar_d_is_last, io_d_is_last, fr_d_atom_holds, ar_d_atom_holds, io_d_atom_holds, fr_d_holds_for, ar_d_holds_for, io_d_holds_for, fr_d_holds, ar_d_holds, io_d_holds, fr_d__law_right, ar_d__law_right, io_d__law_right, fr_d__law_well, ar_d__law_well, io_d__law_well, fr_d_law, ar_d_law, io_d_law, fr_m__law_holds, ar_m__law_holds, io_m__law_holds, fs__law_holds, fa__law_holds, fd__law_holds, fr_m__law_nodes, ar_m__law_nodes, io_m__law_nodes, fs__law_nodes, fa__law_nodes, fd__law_nodes, fr_m__law_tree, ar_m__law_tree, io_m__law_tree, fs__law_tree, fa__law_tree, fd__law_tree, fr_m_all_atoms, ar_m_all_atoms, io_m_all_atoms, fs_all_atoms, fa_all_atoms, fd_all_atoms, fr_m_nodes_in, ar_m_nodes_in, io_m_nodes_in, fs_nodes_in, fa_nodes_in, fd_nodes_in, fr_m_holds_by, ar_m_holds_by, io_m_holds_by, fs_holds_by, fa_holds_by, fd_holds_by, ar_c_0, e_countD, e_lookD, e_catL, e_listL_lst, e_listL_tup, if_or, if_and, nc_0, nc_1, nc_2, nc_3, nc_4, nc_5, nc_6, nc_7, nc_8, nc_9, nc_10, nc_11, nc_12, or_true, true_or, or_false, false_or, or_self, nw_ever_after, nw_ever_within, nw_ever_times, nw_ever_not, nw_ever_all, nw_ever_any, nw_after_ever, nw_after_within, nw_after_times, nw_after_not, nw_after_all, nw_after_any, nw_within_ever, nw_within_after, nw_within_times, nw_within_not, nw_within_all, nw_within_any, nw_times_ever, nw_times_after, nw_times_within, nw_times_not, nw_times_all, nw_times_any, nw_not_ever, nw_not_after, nw_not_within, nw_not_times, nw_not_all, nw_not_any, nw_all_ever, nw_all_after, nw_all_within, nw_all_times, nw_all_not, nw_all_any, nw_any_ever, nw_any_after, nw_any_within, nw_any_times, nw_any_not, nw_any_all, subD_int, subD_var, ixN_0, ixN_1, ixN_2, at0, at1, at2, at3])
  | `(tactic| wp_walk using $ts,*) => `(tactic| simp -dsimp only [↓w_den_int, ↓w_den_str, ↓w_den_bl, ↓w_den_non, ↓w_den_glo, ↓w_den_dict0, ↓w_den_lam, ↓w_con_at, ↓w_as_nil, ↓w_as_cons, ↓w_den_tup, ↓w_den_lst, ↓w_den_bin, ↓w_den_neg, ↓w_den_cmp, ↓w_tst_cmp, ↓w_den_chn, ↓w_tst_chn, ↓w_den_idx, ↓w_den_sli, ↓w_po_none_at, ↓w_po_some_at, ↓w_den_revT, ↓w_den_bfn, ↓w_den_tfn, ↓w_den_isi, ↓w_den_oidx, ↓w_den_olen, ↓w_den_new, ↓w_den_call, ↓w_den_call0, ↓w_den_callf, ↓w_den_callkw, ↓w_den_callv, ↓w_den_and, ↓w_den_or, ↓w_tst_and, ↓w_tst_or, ↓w_one_dAnd, ↓w_one_dOr, ↓w_one_tAnd, ↓w_one_tOr, ↓w_cons_dAnd, ↓w_cons_dOr, ↓w_cons_tAnd, ↓w_cons_tOr, ↓w_den_not, ↓w_tst_not, ↓w_den_ife, ↓w_den_repr, ↓w_tst_repr, ↓w_tst_var, ↓w_tst_isi, ↓w_tst_call, ↓w_tst_callv, ↓w_tst_bfn, ↓w_toD_at, ↓w_ar_nil, ↓w_ar_cons, ↓w_ar_own, ↓w_sr_val, ↓w_sr_enum, ↓w_sr_zip, ↓w_sr_range1, ↓w_cs_nil, ↓w_cs_one, ↓w_fx_lst, ↓w_fx_lc, ↓w_fx_call, ↓w_fx_listRg1, ↓w_den_gindex, ↓w_den_lindex, ↓w_bl_nil, ↓w_bl_cons, ↓w_sm_ret, ↓w_sm_retF, ↓w_sm_retO, ↓w_sm_ifs, ↓w_sm_for, ↓w_sm_set, ↓w_sm_asg, ↓w_sm_frz, ↓w_sm_parM, ↓w_sm_own, ↓w_sm_app, ↓w_sm_stuck, ↓w_ms_nil, ↓w_ms_v, ↓w_ms_f, ↓pz_ok, ↓pz_er, ↓pz_no, ↓pz_bind, ↓pz_ite, ↓sz_ite, ↓fz_ite, ↓sz_nx, ↓sz_bk, ↓sz_ct, ↓sz_rt, ↓sz_rf, ↓sz_er, ↓sz_no, ↓sz_after, ↓sz_next, ↓fz_ok, ↓fz_er, ↓fz_no, ↓pz_lift, ↓pz_var, ↓pz_dvar, ↓pz_dcon, ↓pz_dRepr, ↓pz_oidxD, ↓pz_olenD, ↓pz_callK, ↓pz_callfK, ↓pz_callF, ↓pz_callD, ↓pz_kwD, ↓pz_callvD, ↓sz_ownD, ↓sz_appD, ↓sz_retO, ↓sz_expr, ↓pz_kxnil, ↓pz_kxcons, ↓fz_cden, ↓oz_map, ↓oz_bind, ↓oz_if, ↓oz_ite, ↓pz_dChn, ↓pz_pop, ↓pz_oinD, ↓w_oin_den, ↓w_oin_tst, ↓w_fx_add, ↓w_fx_list, ↓w_fx_lc2, ↓w_den_didx, ↓w_den_lcount, ↓w_den_dc, if_F, wn_nx, wn_bk, wn_ct, wn_rt, wn_rf, wn_er, lp_nx, lp_bk, lp_ct, lp_rt, lp_rf, lp_er, df_nx, df_rt, df_rf, df_er, oz_some, oz_none, isO_n, isO_v, isO_o, slV_z, slV_s, slO_z, slO_s, slN_z, slN_s, isOwn_z, isOwn_s, lstAt_sl, nameD_sl, frzD_sl, fill_nil, fill_cons, put_nil, put_cons, outsE_nil, outsE_cons, kx_ks, kx_ks0, sem_den, sem_io, sem_fresh, sem_ar, csem_den, csem_io, csem_fresh, csem_ar, ar_nil_own, ar_cons_own, ar_own_own, tg_name, tg_tup, tg_sub, tgs_nil, tgs_cons, g_len, g_abs, g_max, g_min, g_divmod, g_all, g_any, g_sum, g_int, g_list, g_tuple, up, nilD, consD, putM, startE, start0, wipeE, noOwn, okF, e_lenD_tup, e_lenD_lst, e_lenD_scr, e_absD_int, e_maxD_int, e_minD_int, e_maxD_lst, e_minD_lst, e_divmodD_int, e_allD_lst, e_anyD_lst, e_sumD_lst, e_intD_int, e_intD_bl, e_listD_lst, e_listD_tup, e_listD_scr, e_tupleD_lst, e_tupleD_tup, e_idxD_tup, e_idxD_lst, e_idxD_scr, e_sliD_tup, e_sliD_lst, e_sliD_scr, e_revTD_tup, e_itemsOf_tup, e_itemsOf_lst, e_itemsOf_scr, e_itemsOf_str, e_enumD_lst, e_enumD_tup, e_zipsD_lst, e_zipsD_tup, e_r1D_int, e_ltD_int, e_ltD_str, e_leD_int, e_isNon_non, e_isNon_bl, e_isNon_int, e_isNon_str, e_isNon_tup, e_isNon_lst, e_isNon_dic, e_isD_bl, e_inD_strt, e_inD_strl, e_inD_intt, e_inD_intl, e_opAdd_int, e_opAdd_str, e_opAdd_tup, e_opAdd_lst, e_opSub_int, e_opMul_int, e_opFdiv_int, e_opMod_int, e_truth_non, e_truth_bl, e_truth_int, e_truth_tup, e_truth_lst, e_truth_dic, e_isL_lst, e_isLst_lst, e_mapB_def, e_cmpD_Lt, e_cmpD_Gt, e_cmpD_LtE, e_cmpD_GtE, e_cmpD_Eq, e_cmpD_NotEq, e_cmpD_In, e_cmpD_NotIn, e_cmpD_Is, e_cmpD_IsNot, e_binD_Add, e_binD_Sub, e_binD_Mult, e_binD_FloorDiv, e_binD_Mod, e_binD_Pow, e_isD_non, e_isi_tyInt_non, e_isi_tyInt_bl, e_isi_tyInt_int, e_isi_tyInt_str, e_isi_tyInt_tup, e_isi_tyInt_lst, e_isi_tyInt_scr, e_isi_tyInt_dic, e_isi_tyBool_non, e_isi_tyBool_bl, e_isi_tyBool_int, e_isi_tyBool_str, e_isi_tyBool_tup, e_isi_tyBool_lst, e_isi_tyBool_scr, e_isi_tyBool_dic, e_isi_tyStr_non, e_isi_tyStr_bl, e_isi_tyStr_int, e_isi_tyStr_str, e_isi_tyStr_tup, e_isi_tyStr_lst, e_isi_tyStr_scr, e_isi_tyStr_dic, e_isi_tyTuple_non, e_isi_tyTuple_bl, e_isi_tyTuple_int, e_isi_tyTuple_str, e_isi_tyTuple_tup, e_isi_tyTuple_lst, e_isi_tyTuple_scr, e_isi_tyTuple_dic, e_isi_tyList_non, e_isi_tyList_bl, e_isi_tyList_int, e_isi_tyList_str, e_isi_tyList_tup, e_isi_tyList_lst, e_isi_tyList_scr, e_isi_tyList_dic, e_isi_tyDict_non, e_isi_tyDict_bl, e_isi_tyDict_int, e_isi_tyDict_str, e_isi_tyDict_tup, e_isi_tyDict_lst, e_isi_tyDict_scr, e_isi_tyDict_dic, e_tup_n, List.set_cons_zero, List.set_cons_succ, List.set_nil, List.length_cons, List.length_nil, List.length_map, List.length_append, List.contains_nil, List.contains_cons, List.replicate_succ, List.replicate_zero, List.cons_append, List.nil_append, List.append_nil, List.map_cons, List.map_nil, List.all_cons, List.all_nil, List.lookup_cons, List.isEmpty_nil, List.isEmpty_cons, Option.getD_some, Option.getD_none, Option.map_some, Option.map_none, Option.bind_some, Option.bind_none, List.getD_cons_zero, List.getD_cons_succ, if_true, if_false, ite_true, ite_false, Bool.false_eq_true, reduceIte, reduceCtorEq, Bool.not_true, Bool.not_false, Bool.not_not, Bool.and_true, Bool.true_and, Bool.and_false, Bool.false_and, Bool.or_true, Bool.true_or, Bool.or_false, Bool.false_or, and_true, true_and, and_false, false_and, and_self, decide_true, decide_false, decide_eq_true_eq, Bool.not_eq_true', Bool.not_eq_eq_eq_not, Nat.zero_add, Nat.add_zero, Nat.reduceAdd, Nat.reduceSub, Nat.reduceLT, Nat.reduceLeDiff, Nat.reduceEqDiff, Nat.reduceBEq, Int.reduceLT, Int.reduceLE, Int.reduceEq, beq_self_eq_true, ne_eq, not_true_eq_false, not_false_eq_true, eq_self, Nat.zero_le, le_size, lt_size, fr_d__law_draw, ar_d__law_draw, io_d__law_draw, fr_d__law_kinds, ar_d__law_kinds, io_d__law_kinds, fr_d__law_of, ar_d__law_of, io_d__law_of, fr_d__law_unlike, ar_d__law_unlike, io_d__law_unlike, fr_d__law_history, ar_d__law_history, io_d__law_history, fr_d__law_atom_holds, ar_d__law_atom_holds, io_d__law_atom_holds, fr_d__law_is, ar_d__law_is, io_d__law_is, fr_d__law_some, ar_d__law_some, io_d__law_some, fr_d__law_atom, ar_d__law_atom, io_d__law_atom, fr_d__law_atoms, ar_d__law_atoms, io_d__law_atoms, fr_d__law_rule, ar_d__law_rule, io_d__law_rule, fr_d_is_ascending, ar_d_is_ascending, io_d_is_ascending, fr_d_is_one_of, ar_d_is_one_of, io_d_is_one_of, fr_d_is_day, ar_d_is_day, io_d_is_day, fr_d_wrong_at, ar_d_wrong_at, io_d_wrong_at, fr_d_wrong_day, ar_d_wrong_day, io_d_wrong_day, fr_d_check_history, ar_d_check_history, io_d_check_history, fr_d_trees_in, ar_d_trees_in, io_d_trees_in, fr_d_atoms_of, ar_d_atoms_of, io_d_atoms_of, fr_d_last_of, ar_d_last_of, io_d_last_of, fr_d_are_kinds, ar_d_are_kinds, io_d_are_kinds, fr_d_is_whole, ar_d_is_whole, io_d_is_whole, fr_d_is_number, ar_d_is_number, io_d_is_number, fr_d_is_atom, ar_d_is_atom, io_d_is_atom, fr_d_is_tuple_of, ar_d_is_tuple_of, io_d_is_tuple_of, fr_d_is_rule, ar_d_is_rule, io_d_is_rule, fr_d_check_rule, ar_d_check_rule, io_d_check_rule, fr_d_has_some, ar_d_has_some, io_d_has_some, fr_d_is_last, ar_d_is_last, io_d_is_last, fr_d_atom_holds, ar_d_atom_holds, io_d_atom_holds, fr_d_holds_for, ar_d_holds_for, io_d_holds_for, fr_d_holds, ar_d_holds, io_d_holds, fr_d__law_right, ar_d__law_right, io_d__law_right, fr_d__law_well, ar_d__law_well, io_d__law_well, fr_d_law, ar_d_law, io_d_law, fr_m__law_holds, ar_m__law_holds, io_m__law_holds, fs__law_holds, fa__law_holds, fd__law_holds, fr_m__law_nodes, ar_m__law_nodes, io_m__law_nodes, fs__law_nodes, fa__law_nodes, fd__law_nodes, fr_m__law_tree, ar_m__law_tree, io_m__law_tree, fs__law_tree, fa__law_tree, fd__law_tree, fr_m_all_atoms, ar_m_all_atoms, io_m_all_atoms, fs_all_atoms, fa_all_atoms, fd_all_atoms, fr_m_nodes_in, ar_m_nodes_in, io_m_nodes_in, fs_nodes_in, fa_nodes_in, fd_nodes_in, fr_m_holds_by, ar_m_holds_by, io_m_holds_by, fs_holds_by, fa_holds_by, fd_holds_by, ar_c_0, e_countD, e_lookD, e_catL, e_listL_lst, e_listL_tup, if_or, if_and, nc_0, nc_1, nc_2, nc_3, nc_4, nc_5, nc_6, nc_7, nc_8, nc_9, nc_10, nc_11, nc_12, or_true, true_or, or_false, false_or, or_self, nw_ever_after, nw_ever_within, nw_ever_times, nw_ever_not, nw_ever_all, nw_ever_any, nw_after_ever, nw_after_within, nw_after_times, nw_after_not, nw_after_all, nw_after_any, nw_within_ever, nw_within_after, nw_within_times, nw_within_not, nw_within_all, nw_within_any, nw_times_ever, nw_times_after, nw_times_within, nw_times_not, nw_times_all, nw_times_any, nw_not_ever, nw_not_after, nw_not_within, nw_not_times, nw_not_all, nw_not_any, nw_all_ever, nw_all_after, nw_all_within, nw_all_times, nw_all_not, nw_all_any, nw_any_ever, nw_any_after, nw_any_within, nw_any_times, nw_any_not, nw_any_all, subD_int, subD_var, ixN_0, ixN_1, ixN_2, at0, at1, at2, at3, $[$ts:term],*])
/-! ### an atom holds, both ways -/
theorem atoms_B {l : Nat} : ∀ {v : D}, treeB l v = true → ∀ x ∈ atomsL l v, atomB x = true := by
  induction l with
  | zero => exact fun h => by rw [treeB_0] at h; cases h
  | succ l ih =>
    intro v h
    have key : ∀ {ts : List D}, (∀ x ∈ ts, treeB l x = true) → ∀ x ∈ ts.flatMap (atomsL l), atomB x = true := by
      intro ts h x hx
      obtain ⟨t, ht, hx⟩ := List.mem_flatMap.mp hx
      exact ih (h t ht) x hx
    cases treeP_of h with
    | not h => rw [atomsL_s, if_pos rfl]; exact ih h
    | all h1 h2 h3 =>
      rw [atomsL_s]
      simp only [nw_all_not, if_false, if_true, true_or]
      exact key h3
    | any h1 h2 h3 =>
      rw [atomsL_s]
      simp only [nw_any_not, if_false, if_true, or_true]
      exact key h3
    | atom w1 w2 w3 g =>
      rw [atomsL_s, if_neg w1, if_neg (by rintro (z | z); exact w2 z; exact w3 z)]
      intro x hx
      rw [List.mem_singleton] at hx
      subst hx
      exact g
theorem within_b {k : D} {n : Int} (h : atomB (.tup [.str "within", k, .int n]) = true) : 1 ≤ n ∧ n ≤ 4 := by
  rw [atomB_str, Bool.and_eq_true] at h
  have h := h.2
  simp only [nw_within_ever, nw_within_after, if_false, if_true] at h
  exact of_decide_eq_true (show decide (1 ≤ n ∧ n ≤ 4) = true from h)
theorem times_b {k : D} {m n : Int} (h : atomB (.tup [.str "times", k, .int m, .int n]) = true) : 2 ≤ m ∧ m ≤ n ∧ n ≤ 4 := by
  rw [atomB_str, Bool.and_eq_true] at h
  have h := h.2
  simp only [nw_times_ever, nw_times_after, nw_times_within, if_false, if_true] at h
  have h : (decide (2 ≤ m ∧ m ≤ 3) && decide (m ≤ n ∧ n ≤ 4)) = true := h
  rw [Bool.and_eq_true, decide_eq_true_eq, decide_eq_true_eq] at h
  exact ⟨h.1.1, h.2.1, h.2.2⟩
theorem cutL_map {α β : Type} (f : α → β) (xs : List α) (a b : Option Int) : cutL (xs.map f) a b = (cutL xs a b).map f := by
  unfold cutL
  rw [List.length_map, List.map_take, List.map_drop]
theorem some_map (k : List Str) (h : List (List Str)) : ((h.map dayD).map fun d => D.bl (someB k (zsOf d))) = (h.map (someB k)).map .bl := by
  rw [List.map_map, List.map_map]
  refine List.map_congr_left fun l _ => ?_
  show D.bl (someB k (zsOf (dayD l))) = .bl (someB k l)
  rw [zs_day]
theorem some_filter (k : List Str) (h : List (List Str)) : ((h.map dayD).filter fun d => someB k (zsOf d)).length = (h.filter (someB k)).length := by
  rw [List.filter_map, List.length_map]
  congr 1
  refine List.filter_congr fun l _ => ?_
  show someB k (zsOf (dayD l)) = someB k l
  rw [zs_day]
theorem cut_two (w k : D) (r : List D) : cutL (w :: k :: r) (some 2) none = r := by
  unfold cutL HT.sIx
  simp
/-- atom_holds -/
theorem atom_holds_den {h : List (List Str)} {d : D} (hp : AtomP d) (hb : atomB d = true) (hd : ∀ l ∈ h, l.Sublist k6) (hl : h.length ≤ 1000) : d_atom_holds.den [d, histD h] = .ok (.bl (satA h d)) [] := by
  have hs := size_is
  apply FO.eq_of
  show FO.Post _ _ _
  rw [fz_den]
  cases hp with
  | @ever k hk =>
    wp_walk using d_atom_holds, eqD_str, histD
    refine pz_lc1 (ρ1 := [.v (.tup [.str "ever", .tup (k.map .str)]), .v (histD h), .n, .n, .n]) (ds := h.map dayD) (fun _ => true) (fun d => .bl (someB k (zsOf d))) rfl rfl (by rw [List.length_map]; omega) (fun x hx => ?_) (fun x hx _ => ?_) ?_
    · wp_walk
    · obtain ⟨l, rfl, _, hll⟩ := day_pos hd hx
      wp_walk using has_some_den hll, zs_day
    · wp_walk using filt_true, some_map, blsOf_map, any_map_id, sat_ever
  | @after a b ha hb2 =>
    wp_walk using d_atom_holds, eqD_str, is_last_den hd, sat_after
  | @within k n hk =>
    obtain ⟨h1, h4⟩ := within_b hb
    wp_walk using d_atom_holds, eqD_str, histD, cut_last _ h1
    refine pz_lc1 (ρ1 := [.v (.tup [.str "within", .tup (k.map .str), .int n]), .v (histD h), .n, .v (.int 1), .v (.int n)]) (ds := (lastN n h).map dayD) (fun d => someB k (zsOf d)) (fun d => d) ?_ rfl (by rw [List.length_map]; unfold lastN; rw [List.length_drop]; omega) (fun x hx => ?_) (fun x hx _ => ?_) ?_
    · refine eq_of_post (?_ : Out.Pz _ _ _ .mk)
      wp_walk using histD, cut_last _ h1
      unfold lastN
      rw [List.map_drop]
    · obtain ⟨l, rfl, _, hll⟩ := day_pos (fun l hx => hd l (List.drop_subset _ _ hx)) hx
      wp_walk using has_some_den hll, zs_day
    · wp_walk
    · have e := some_filter k (lastN n h)
      wp_walk using e, sat_within
      congr 1
      refine Bool.eq_iff_iff.mpr ?_
      rw [decide_eq_true_eq, decide_eq_true_eq]
      omega
  | @times k m n hk =>
    obtain ⟨h1, h4, h5⟩ := times_b hb
    wp_walk using d_atom_holds, eqD_str, histD, cut_last _ (show 1 ≤ n by omega), cut_two
    refine pz_lc1 (ρ1 := [.v (.tup [.str "times", .tup (k.map .str), .int m, .int n]), .v (histD h), .n, .v (.int m), .v (.int n)]) (ds := (lastN n h).map dayD) (fun d => someB k (zsOf d)) (fun d => d) ?_ rfl (by rw [List.length_map]; unfold lastN; rw [List.length_drop]; omega) (fun x hx => ?_) (fun x hx _ => ?_) ?_
    · refine eq_of_post (?_ : Out.Pz _ _ _ .mk)
      wp_walk using histD, cut_last _ (show 1 ≤ n by omega)
      unfold lastN
      rw [List.map_drop]
    · obtain ⟨l, rfl, _, hll⟩ := day_pos (fun l hx => hd l (List.drop_subset _ _ hx)) hx
      wp_walk using has_some_den hll, zs_day
    · wp_walk
    · have e := some_filter k (lastN n h)
      wp_walk using e, sat_times
theorem inDs_bls (bs : List Bool) : inDs (.bl true) (bs.map .bl) = some (bs.any id) := by
  have hd : Ds.data (bs.map .bl) = true ∧ PyData.depthAll (Ds.toP (bs.map .bl)) = 0 := by
    induction bs with
    | nil => exact ⟨rfl, rfl⟩
    | cons b bs ih =>
      refine ⟨by rw [List.map_cons, Ds.data, ih.1]; rfl, ?_⟩
      rw [List.map_cons, Ds.toP, PyData.depthAll, ih.2]
      rfl
  unfold inDs
  rw [if_pos (by rw [hd.1, hd.2]; rfl)]
  congr 1
  rw [List.any_map]
  congr 1
  funext b
  cases b <;> rfl
theorem inD_bll (b : Bool) (xs : List D) : inD (.bl b) (.lst xs) = inDs (.bl b) xs := rfl
theorem any_len (k : List Str) (h : List (List Str)) : (h.map (someB k)).any id = decide (1 ≤ (h.filter (someB k)).length) := by
  rw [any_map_id]
  refine Bool.eq_iff_iff.mpr ?_
  rw [decide_eq_true_eq, List.any_eq_true]
  constructor
  · rintro ⟨x, h1, h2⟩
    exact List.length_pos_iff.mpr fun z => by
      have := List.mem_filter.mpr ⟨h1, h2⟩
      rw [z] at this
      cases this
  · intro h1
    obtain ⟨x, hx⟩ := List.exists_mem_of_length_pos h1
    exact ⟨x, (List.mem_filter.mp hx).1, (List.mem_filter.mp hx).2⟩
theorem count_len (k : List Str) (h : List (List Str)) : (h.map (someB k)).count true = (h.filter (someB k)).length := by
  rw [List.count, List.countP_map, List.countP_eq_length_filter]
  congr 1
  refine List.filter_congr fun l _ => ?_
  show (someB k l == true) = _
  cases someB k l <;> rfl
theorem cut_lastN (h : List (List Str)) {n : Int} (hn : 0 ≤ n) : cutL h (some (if (h.length : Int) - n > 0 then (h.length : Int) - n else 0)) none = lastN n h := by
  rw [cut_from]
  unfold lastN
  congr 1
  omega
theorem daysL {k : List Str} {r : List D} {w : Str} {h : List (List Str)} {Q : List D → En → Prop} {R : Xn → En → Prop} {z : Lz (Q, R)} (hd : ∀ l ∈ h, l.Sublist k6) (hl : h.length ≤ 1000)
    (q : Q ((h.map (someB k)).map .bl) [.v (.tup (.str w :: .tup (k.map .str) :: r)), .v (histD h), .n, .n, .n, .n]) :
    (lcD (Sr.val (.var 1)).den [4] (nameD 4) Cs.nil.den (Ex.cmp .NotEq (.new (.lc (.val (.var 4)) (.name 3) (.one (.cmp .In (.var 3) (.idx (.var 0) (.int 1)))) (.int 1) [3])) (.lst .nil)).den [.v (.tup (.str w :: .tup (k.map .str) :: r)), .v (histD h), .n, .n, .n, .n]).Pz Q R z := by
  have hs := size_is
  refine pz_lc1 (ρ1 := [.v (.tup (.str w :: .tup (k.map .str) :: r)), .v (histD h), .n, .n, .n, .n]) (ds := h.map dayD) (fun _ => true) (fun d => .bl (someB k (zsOf d))) rfl rfl (by rw [List.length_map]; omega) (fun x hx => ?_) (fun x hx _ => ?_) ?_
  · wp_walk
  · obtain ⟨l, rfl, _, hll⟩ := day_pos hd hx
    wp_walk using dayD
    refine pz_lc1 (ρ1 := [.v (.tup (.str w :: .tup (k.map .str) :: r)), .v (histD h), .n, .n, .v (dayD l), .n]) (ds := l.map .str) (fun d => match d with | .str z => decide (z ∈ k) | _ => false) (fun _ => .int 1) rfl rfl (by rw [List.length_map]; omega) (fun x hx => ?_) (fun x hx _ => ?_) ?_
    · obtain ⟨z, hz, rfl⟩ := List.mem_map.mp hx
      wp_walk using inDs_map
    · wp_walk
    · wp_walk using eqD_ones, zs_tup
      congr 1
      rw [zs_day, Bool.eq_iff_iff]
      unfold someB
      rw [Bool.not_eq_true', decide_eq_false_iff_not, List.filter_eq_nil_iff, List.any_eq_true]
      simp
  · wp_walk using filt_true, some_map
    exact q
/-- _law_atom_holds -/
theorem law_atom_holds_den {h : List (List Str)} {d : D} (hp : AtomP d) (hb : atomB d = true) (hd : ∀ l ∈ h, l.Sublist k6) (hl : h.length ≤ 1000) : d__law_atom_holds.den [d, histD h] = .ok (.bl (satA h d)) [] := by
  have hs := size_is
  apply FO.eq_of
  show FO.Post _ _ _
  rw [fz_den]
  cases hp with
  | @ever k hk =>
    wp_walk using d__law_atom_holds
    refine daysL hd hl ?_
    wp_walk using eqD_str, inDs_bls, any_map_id, sat_ever
  | @after a b ha hb2 =>
    wp_walk using d__law_atom_holds
    refine daysL hd hl ?_
    wp_walk using eqD_str, histD
    refine sz_forGo (z := .mk) (fun r ρ => ∃ (done rest : List (List Str)) (s3 s4 : Sl), h = done ++ rest ∧ r = rest.map dayD ∧ NO s3 ∧ NO s4 ∧ ρ = [.v (.tup [.str "after", .tup (a.map .str), .tup (b.map .str)]), .v (histD h), .o (.lst ((h.map (someB a)).map .bl)), s3, s4, .v (.bl (done.flatten.foldl (stepB a b) false))]) ⟨[], h, .n, .n, rfl, rfl, rfl, rfl, rfl⟩ ?_ ?_
    · rintro d r ρ ⟨done, rest, s3, s4, e1, e2, n3, n4, rfl⟩
      cases rest with
      | nil => cases e2
      | cons l rest =>
        cases e2
        wp_walk using n3, n4, dayD
        refine sz_forGo (z := .mk) (fun r ρ => ∃ (dn rs : List Str) (s3 : Sl), l = dn ++ rs ∧ r = rs.map .str ∧ NO s3 ∧ ρ = [.v (.tup [.str "after", .tup (a.map .str), .tup (b.map .str)]), .v (histD h), .o (.lst ((h.map (someB a)).map .bl)), s3, .v (dayD l), .v (.bl (dn.foldl (stepB a b) (done.flatten.foldl (stepB a b) false)))]) ⟨[], l, s3, rfl, rfl, n3, rfl⟩ ?_ ?_
        · rintro d r ρ ⟨dn, rs, s3, f1, f2, n3, rfl⟩
          cases rs with
          | nil => cases f2
          | cons k rs =>
            cases f2
            wp_walk using n3, inDs_map
            have e : (dn ++ [k]).foldl (stepB a b) (done.flatten.foldl (stepB a b) false) = stepB a b (dn.foldl (stepB a b) (done.flatten.foldl (stepB a b) false)) k := by rw [List.foldl_append]; rfl
            generalize dn.foldl (stepB a b) (done.flatten.foldl (stepB a b) false) = f at e
            by_cases g1 : k ∈ a
            · wp_walk using g1
              exact ⟨dn ++ [k], rs, .v (.str k), by rw [f1]; simp, rfl, rfl, by rw [e, stepB, if_pos g1]⟩
            · cases f with
              | false =>
                wp_walk using g1
                exact ⟨dn ++ [k], rs, .v (.str k), by rw [f1]; simp, rfl, rfl, by rw [e, stepB, if_neg g1]; split <;> rfl⟩
              | true =>
                by_cases g2 : k ∈ b
                · wp_walk using g1, g2
                  exact ⟨dn ++ [k], rs, .v (.str k), by rw [f1]; simp, rfl, rfl, by rw [e, stepB, if_neg g1, if_pos g2]⟩
                · wp_walk using g1, g2
                  exact ⟨dn ++ [k], rs, .v (.str k), by rw [f1]; simp, rfl, rfl, by rw [e, stepB, if_neg g1, if_neg g2]⟩
        · rintro ρ ⟨dn, rs, s3, f1, f2, n3, rfl⟩
          have : rs = [] := List.map_eq_nil_iff.mp f2.symm
          subst this
          rw [List.append_nil] at f1
          subst f1
          exact ⟨done ++ [l], rest, s3, .v (dayD l), by rw [e1]; simp, rfl, n3, rfl, by rw [List.flatten_append, List.foldl_append]; simp⟩
    · rintro ρ ⟨done, rest, s3, s4, e1, e2, n3, n4, rfl⟩
      have : rest = [] := List.map_eq_nil_iff.mp e2.symm
      subst this
      rw [List.append_nil] at e1
      subst e1
      wp_walk using sat_after
  | @within k n hk =>
    obtain ⟨h1, h4⟩ := within_b hb
    wp_walk using d__law_atom_holds
    refine daysL hd hl ?_
    wp_walk using eqD_str, cutL_map, cut_lastN _ (show 0 ≤ n by omega), inD_bll, inDs_bls, any_len, sat_within
  | @times k m n hk =>
    obtain ⟨h1, h4, h5⟩ := times_b hb
    wp_walk using d__law_atom_holds
    refine daysL hd hl ?_
    wp_walk using eqD_str, cutL_map, cut_lastN _ (show 0 ≤ n by omega), e_countD, blsOf_map, count_len, sat_times
end K02
set_option Elab.async false
set_option maxRecDepth 100000
set_option maxHeartbeats 4000000
namespace K02
open PySem PySem.Spec L2 Ev
local macro_rules
  | `(tactic| wp_walk) => `(tactic| simp -dsimp only [↓w_den_int, ↓w_den_str, ↓w_den_bl, ↓w_den_non, ↓w_den_glo, ↓w_den_dict0, ↓w_den_lam, ↓w_con_at, ↓w_as_nil, ↓w_as_cons, ↓w_den_tup, ↓w_den_lst, ↓w_den_bin, ↓w_den_neg, ↓w_den_cmp, ↓w_tst_cmp, ↓w_den_chn, ↓w_tst_chn, ↓w_den_idx, ↓w_den_sli, ↓w_po_none_at, ↓w_po_some_at, ↓w_den_revT, ↓w_den_bfn, ↓w_den_tfn, ↓w_den_isi, ↓w_den_oidx, ↓w_den_olen, ↓w_den_new, ↓w_den_call, ↓w_den_call0, ↓w_den_callf, ↓w_den_callkw, ↓w_den_callv, ↓w_den_and, ↓w_den_or, ↓w_tst_and, ↓w_tst_or, ↓w_one_dAnd, ↓w_one_dOr, ↓w_one_tAnd, ↓w_one_tOr, ↓w_cons_dAnd, ↓w_cons_dOr, ↓w_cons_tAnd, ↓w_cons_tOr, ↓w_den_not, ↓w_tst_not, ↓w_den_ife, ↓w_den_repr, ↓w_tst_repr, ↓w_tst_var, ↓w_tst_isi, ↓w_tst_call, ↓w_tst_callv, ↓w_tst_bfn, ↓w_toD_at, ↓w_ar_nil, ↓w_ar_cons, ↓w_ar_own, ↓w_sr_val, ↓w_sr_enum, ↓w_sr_zip, ↓w_sr_range1, ↓w_cs_nil, ↓w_cs_one, ↓w_fx_lst, ↓w_fx_lc, ↓w_fx_call, ↓w_fx_listRg1, ↓w_den_gindex, ↓w_den_lindex, ↓w_bl_nil, ↓w_bl_cons, ↓w_sm_ret, ↓w_sm_retF, ↓w_sm_retO, ↓w_sm_ifs, ↓w_sm_for, ↓w_sm_set, ↓w_sm_asg, ↓w_sm_frz, ↓w_sm_parM, ↓w_sm_own, ↓w_sm_app, ↓w_sm_stuck, ↓w_ms_nil, ↓w_ms_v, ↓w_ms_f, ↓pz_ok, ↓pz_er, ↓pz_no, ↓pz_bind, ↓pz_ite, ↓sz_ite, ↓fz_ite, ↓sz_nx, ↓sz_bk, ↓sz_ct, ↓sz_rt, ↓sz_rf, ↓sz_er, ↓sz_no, ↓sz_after, ↓sz_next, ↓fz_ok, ↓fz_er, ↓fz_no, ↓pz_lift, ↓pz_var, ↓pz_dvar, ↓pz_dcon, ↓pz_dRepr, ↓pz_oidxD, ↓pz_olenD, ↓pz_callK, ↓pz_callfK, ↓pz_callF, ↓pz_callD, ↓pz_kwD, ↓pz_callvD, ↓sz_ownD, ↓sz_appD, ↓sz_retO, ↓sz_expr, ↓pz_kxnil, ↓pz_kxcons, ↓fz_cden, ↓oz_map, ↓oz_bind, ↓oz_if, ↓oz_ite, ↓pz_dChn, ↓pz_pop, ↓pz_oinD, ↓w_oin_den, ↓w_oin_tst, ↓w_fx_add, ↓w_fx_list, ↓w_fx_lc2, ↓w_den_didx, ↓w_den_lcount, ↓w_den_dc, if_F, wn_nx, wn_bk, wn_ct, wn_rt, wn_rf, wn_er, lp_nx, lp_bk, lp_ct, lp_rt, lp_rf, lp_er, df_nx, df_rt, df_rf, df_er, oz_some, oz_none, isO_n, isO_v, isO_o, slV_z, slV_s, slO_z, slO_s, slN_z, slN_s, isOwn_z, isOwn_s, lstAt_sl, nameD_sl, frzD_sl, fill_nil, fill_cons, put_nil, put_cons, outsE_nil, outsE_cons, kx_ks, kx_ks0, sem_den, sem_io, sem_fresh, sem_ar, csem_den, csem_io, csem_fresh, csem_ar, ar_nil_own, ar_cons_own, ar_own_own, tg_name, tg_tup, tg_sub, tgs_nil, tgs_cons, g_len, g_abs, g_max, g_min, g_divmod, g_all, g_any, g_sum, g_int, g_list, g_tuple, up, nilD, consD, putM, startE, start0, wipeE, noOwn, okF, e_lenD_tup, e_lenD_lst, e_lenD_scr, e_absD_int, e_maxD_int, e_minD_int, e_maxD_lst, e_minD_lst, e_divmodD_int, e_allD_lst, e_anyD_lst, e_sumD_lst, e_intD_int, e_intD_bl, e_listD_lst, e_listD_tup, e_listD_scr, e_tupleD_lst, e_tupleD_tup, e_idxD_tup, e_idxD_lst, e_idxD_scr, e_sliD_tup, e_sliD_lst, e_sliD_scr, e_revTD_tup, e_itemsOf_tup, e_itemsOf_lst, e_itemsOf_scr, e_itemsOf_str, e_enumD_lst, e_enumD_tup, e_zipsD_lst, e_zipsD_tup, e_r1D_int, e_ltD_int, e_ltD_str, e_leD_int, e_isNon_non, e_isNon_bl, e_isNon_int, e_isNon_str, e_isNon_tup, e_isNon_lst, e_isNon_dic, e_isD_bl, e_inD_strt, e_inD_strl, e_inD_intt, e_inD_intl, e_opAdd_int, e_opAdd_str, e_opAdd_tup, e_opAdd_lst, e_opSub_int, e_opMul_int, e_opFdiv_int, e_opMod_int, e_truth_non, e_truth_bl, e_truth_int, e_truth_tup, e_truth_lst, e_truth_dic, e_isL_lst, e_isLst_lst, e_mapB_def, e_cmpD_Lt, e_cmpD_Gt, e_cmpD_LtE, e_cmpD_GtE, e_cmpD_Eq, e_cmpD_NotEq, e_cmpD_In, e_cmpD_NotIn, e_cmpD_Is, e_cmpD_IsNot, e_binD_Add, e_binD_Sub, e_binD_Mult, e_binD_FloorDiv, e_binD_Mod, e_binD_Pow, e_isD_non, e_isi_tyInt_non, e_isi_tyInt_bl, e_isi_tyInt_int, e_isi_tyInt_str, e_isi_tyInt_tup, e_isi_tyInt_lst, e_isi_tyInt_scr, e_isi_tyInt_dic, e_isi_tyBool_non, e_isi_tyBool_bl, e_isi_tyBool_int, e_isi_tyBool_str, e_isi_tyBool_tup, e_isi_tyBool_lst, e_isi_tyBool_scr, e_isi_tyBool_dic, e_isi_tyStr_non, e_isi_tyStr_bl, e_isi_tyStr_int, e_isi_tyStr_str, e_isi_tyStr_tup, e_isi_tyStr_lst, e_isi_tyStr_scr, e_isi_tyStr_dic, e_isi_tyTuple_non, e_isi_tyTuple_bl, e_isi_tyTuple_int, e_isi_tyTuple_str, e_isi_tyTuple_tup, e_isi_tyTuple_lst, e_isi_tyTuple_scr, e_isi_tyTuple_dic, e_isi_tyList_non, e_isi_tyList_bl, e_isi_tyList_int, e_isi_tyList_str, e_isi_tyList_tup, e_isi_tyList_lst, e_isi_tyList_scr, e_isi_tyList_dic, e_isi_tyDict_non, e_isi_tyDict_bl, e_isi_tyDict_int, e_isi_tyDict_str, e_isi_tyDict_tup, e_isi_tyDict_lst, e_isi_tyDict_scr, e_isi_tyDict_dic, e_tup_n, List.set_cons_zero, List.set_cons_succ, List.set_nil, List.length_cons, List.length_nil, List.length_map, List.length_append, List.contains_nil, List.contains_cons, List.replicate_succ, List.replicate_zero, List.cons_append, List.nil_append, List.append_nil, List.map_cons, List.map_nil, List.all_cons, List.all_nil, List.lookup_cons, List.isEmpty_nil, List.isEmpty_cons, Option.getD_some, Option.getD_none, Option.map_some, Option.map_none, Option.bind_some, Option.bind_none, List.getD_cons_zero, List.getD_cons_succ, if_true, if_false, ite_true, ite_false, Bool.false_eq_true, reduceIte, reduceCtorEq, Bool.not_true, Bool.not_false, Bool.not_not, Bool.and_true, Bool.true_and, Bool.and_false, Bool.false_and, Bool.or_true, Bool.true_or, Bool.or_false, Bool.false_or, and_true, true_and, and_false, false_and, and_self, decide_true, decide_false, decide_eq_true_eq, Bool.not_eq_true', Bool.not_eq_eq_eq_not, Nat.zero_add, Nat.add_zero, Nat.reduceAdd, Nat.reduceSub, Nat.reduceLT, Nat.reduceLeDiff, Nat.reduceEqDiff, Nat.reduceBEq, Int.reduceLT, Int.reduceLE, Int.reduceEq, beq_self_eq_true, ne_eq, not_true_eq_false, not_false_eq_true, eq_self, Nat.zero_le, le_size, lt_size, fr_d__law_draw, ar_d__law_draw, io_d__law_draw, fr_d__law_kinds, ar_d__law_kinds, io_d__law_kinds, fr_d__law_of, ar_d__law_of, io_d__law_of, fr_d__law_unlike, ar_d__law_unlike, io_d__law_unlike, fr_d__law_history, ar_d__law_history, io_d__law_history, fr_d__law_atom_holds, ar_d__law_atom_holds, io_d__law_atom_holds, fr_d__law_is, ar_d__law_is, io_d__law_is, fr_d__law_some, ar_d__law_some, io_d__law_some, fr_d__law_atom, ar_d__law_atom, io_d__law_atom, fr_d__law_atoms, ar_d__law_atoms, io_d__law_atoms, fr_d__law_rule, ar_d__law_rule, io_d__law_rule, fr_d_is_ascending, ar_d_is_ascending, io_d_is_ascending, fr_d_is_one_of, ar_d_is_one_of, io_d_is_one_of, fr_d_is_day, ar_d_is_day, io_d_is_day, fr_d_wrong_at, ar_d_wrong_at, io_d_wrong_at, fr_d_wrong_day, ar_d_wrong_day, io_d_wrong_day, fr_d_check_history, ar_d_check_history, io_d_check_history, fr_d_trees_in, ar_d_trees_in, io_d_trees_in, fr_d_atoms_of, ar_d_atoms_of, io_d_atoms_of, fr_d_last_of, ar_d_last_of, io_d_last_of, fr_d_are_kinds, ar_d_are_kinds, io_d_are_kinds, fr_d_is_whole, ar_d_is_whole, io_d_is_whole, fr_d_is_number, ar_d_is_number, io_d_is_number, fr_d_is_atom, ar_d_is_atom, io_d_is_atom, fr_d_is_tuple_of, ar_d_is_tuple_of, io_d_is_tuple_of, fr_d_is_rule, ar_d_is_rule, io_d_is_rule, fr_d_check_rule, ar_d_check_rule, io_d_check_rule, fr_d_has_some, ar_d_has_some, io_d_has_some, fr_d_is_last, ar_d_is_last, io_d_is_last, fr_d_atom_holds, ar_d_atom_holds, io_d_atom_holds, fr_d_holds_for, ar_d_holds_for, io_d_holds_for, fr_d_holds, ar_d_holds, io_d_holds, fr_d__law_right, ar_d__law_right, io_d__law_right, fr_d__law_well, ar_d__law_well, io_d__law_well, fr_d_law, ar_d_law, io_d_law, fr_m__law_holds, ar_m__law_holds, io_m__law_holds, fs__law_holds, fa__law_holds, fd__law_holds, fr_m__law_nodes, ar_m__law_nodes, io_m__law_nodes, fs__law_nodes, fa__law_nodes, fd__law_nodes, fr_m__law_tree, ar_m__law_tree, io_m__law_tree, fs__law_tree, fa__law_tree, fd__law_tree, fr_m_all_atoms, ar_m_all_atoms, io_m_all_atoms, fs_all_atoms, fa_all_atoms, fd_all_atoms, fr_m_nodes_in, ar_m_nodes_in, io_m_nodes_in, fs_nodes_in, fa_nodes_in, fd_nodes_in, fr_m_holds_by, ar_m_holds_by, io_m_holds_by, fs_holds_by, fa_holds_by, fd_holds_by, ar_c_0, e_countD, e_lookD, e_catL, e_listL_lst, e_listL_tup, if_or, if_and, nc_0, nc_1, nc_2, nc_3, nc_4, nc_5, nc_6, nc_7, nc_8, nc_9, nc_10, nc_11, nc_12, or_true, true_or, or_false, false_or, or_self, nw_ever_after, nw_ever_within, nw_ever_times, nw_ever_not, nw_ever_all, nw_ever_any, nw_after_ever, nw_after_within, nw_after_times, nw_after_not, nw_after_all, nw_after_any, nw_within_ever, nw_within_after, nw_within_times, nw_within_not, nw_within_all, nw_within_any, nw_times_ever, nw_times_after, nw_times_within, nw_times_not, nw_times_all, nw_times_any, nw_not_ever, nw_not_after, nw_not_within, nw_not_times, nw_not_all, nw_not_any, nw_all_ever, nw_all_after, nw_all_within, nw_all_times, nw_all_not, nw_all_any, nw_any_ever, nw_any_after, nw_any_within, nw_any_times, nw_any_not, nw_any_all, subD_int, subD_var, ixN_0, ixN_1, ixN_2, at0, at1, at2, at3])
  | `(tactic| wp_walk using $ts,*) => `(tactic| simp -dsimp only [↓w_den_int, ↓w_den_str, ↓w_den_bl, ↓w_den_non, ↓w_den_glo, ↓w_den_dict0, ↓w_den_lam, ↓w_con_at, ↓w_as_nil, ↓w_as_cons, ↓w_den_tup, ↓w_den_lst, ↓w_den_bin, ↓w_den_neg, ↓w_den_cmp, ↓w_tst_cmp, ↓w_den_chn, ↓w_tst_chn, ↓w_den_idx, ↓w_den_sli, ↓w_po_none_at, ↓w_po_some_at, ↓w_den_revT, ↓w_den_bfn, ↓w_den_tfn, ↓w_den_isi, ↓w_den_oidx, ↓w_den_olen, ↓w_den_new, ↓w_den_call, ↓w_den_call0, ↓w_den_callf, ↓w_den_callkw, ↓w_den_callv, ↓w_den_and, ↓w_den_or, ↓w_tst_and, ↓w_tst_or, ↓w_one_dAnd, ↓w_one_dOr, ↓w_one_tAnd, ↓w_one_tOr, ↓w_cons_dAnd, ↓w_cons_dOr, ↓w_cons_tAnd, ↓w_cons_tOr, ↓w_den_not, ↓w_tst_not, ↓w_den_ife, ↓w_den_repr, ↓w_tst_repr, ↓w_tst_var, ↓w_tst_isi, ↓w_tst_call, ↓w_tst_callv, ↓w_tst_bfn, ↓w_toD_at, ↓w_ar_nil, ↓w_ar_cons, ↓w_ar_own, ↓w_sr_val, ↓w_sr_enum, ↓w_sr_zip, ↓w_sr_range1, ↓w_cs_nil, ↓w_cs_one, ↓w_fx_lst, ↓w_fx_lc, ↓w_fx_call, ↓w_fx_listRg1, ↓w_den_gindex, ↓w_den_lindex, ↓w_bl_nil, ↓w_bl_cons, ↓w_sm_ret, ↓w_sm_retF, ↓w_sm_retO, ↓w_sm_ifs, ↓w_sm_for, ↓w_sm_set, ↓w_sm_asg, ↓w_sm_frz, ↓w_sm_parM, ↓w_sm_own, ↓w_sm_app, ↓w_sm_stuck, ↓w_ms_nil, ↓w_ms_v, ↓w_ms_f, ↓pz_ok, ↓pz_er, ↓pz_no, ↓pz_bind, ↓pz_ite, ↓sz_ite, ↓fz_ite, ↓sz_nx, ↓sz_bk, ↓sz_ct, ↓sz_rt, ↓sz_rf, ↓sz_er, ↓sz_no, ↓sz_after, ↓sz_next, ↓fz_ok, ↓fz_er, ↓fz_no, ↓pz_lift, ↓pz_var, ↓pz_dvar, ↓pz_dcon, ↓pz_dRepr, ↓pz_oidxD, ↓pz_olenD, ↓pz_callK, ↓pz_callfK, ↓pz_callF, ↓pz_callD, ↓pz_kwD, ↓pz_callvD, ↓sz_ownD, ↓sz_appD, ↓sz_retO, ↓sz_expr, ↓pz_kxnil, ↓pz_kxcons, ↓fz_cden, ↓oz_map, ↓oz_bind, ↓oz_if, ↓oz_ite, ↓pz_dChn, ↓pz_pop, ↓pz_oinD, ↓w_oin_den, ↓w_oin_tst, ↓w_fx_add, ↓w_fx_list, ↓w_fx_lc2, ↓w_den_didx, ↓w_den_lcount, ↓w_den_dc, if_F, wn_nx, wn_bk, wn_ct, wn_rt, wn_rf, wn_er, lp_nx, lp_bk, lp_ct, lp_rt, lp_rf, lp_er, df_nx, df_rt, df_rf, df_er, oz_some, oz_none, isO_n, isO_v, isO_o, slV_z, slV_s, slO_z, slO_s, slN_z, slN_s, isOwn_z, isOwn_s, lstAt_sl, nameD_sl, frzD_sl, fill_nil, fill_cons, put_nil, put_cons, outsE_nil, outsE_cons, kx_ks, kx_ks0, sem_den, sem_io, sem_fresh, sem_ar, csem_den, csem_io, csem_fresh, csem_ar, ar_nil_own, ar_cons_own, ar_own_own, tg_name, tg_tup, tg_sub, tgs_nil, tgs_cons, g_len, g_abs, g_max, g_min, g_divmod, g_all, g_any, g_sum, g_int, g_list, g_tuple, up, nilD, consD, putM, startE, start0, wipeE, noOwn, okF, e_lenD_tup, e_lenD_lst, e_lenD_scr, e_absD_int, e_maxD_int, e_minD_int, e_maxD_lst, e_minD_lst, e_divmodD_int, e_allD_lst, e_anyD_lst, e_sumD_lst, e_intD_int, e_intD_bl, e_listD_lst, e_listD_tup, e_listD_scr, e_tupleD_lst, e_tupleD_tup, e_idxD_tup, e_idxD_lst, e_idxD_scr, e_sliD_tup, e_sliD_lst, e_sliD_scr, e_revTD_tup, e_itemsOf_tup, e_itemsOf_lst, e_itemsOf_scr, e_itemsOf_str, e_enumD_lst, e_enumD_tup, e_zipsD_lst, e_zipsD_tup, e_r1D_int, e_ltD_int, e_ltD_str, e_leD_int, e_isNon_non, e_isNon_bl, e_isNon_int, e_isNon_str, e_isNon_tup, e_isNon_lst, e_isNon_dic, e_isD_bl, e_inD_strt, e_inD_strl, e_inD_intt, e_inD_intl, e_opAdd_int, e_opAdd_str, e_opAdd_tup, e_opAdd_lst, e_opSub_int, e_opMul_int, e_opFdiv_int, e_opMod_int, e_truth_non, e_truth_bl, e_truth_int, e_truth_tup, e_truth_lst, e_truth_dic, e_isL_lst, e_isLst_lst, e_mapB_def, e_cmpD_Lt, e_cmpD_Gt, e_cmpD_LtE, e_cmpD_GtE, e_cmpD_Eq, e_cmpD_NotEq, e_cmpD_In, e_cmpD_NotIn, e_cmpD_Is, e_cmpD_IsNot, e_binD_Add, e_binD_Sub, e_binD_Mult, e_binD_FloorDiv, e_binD_Mod, e_binD_Pow, e_isD_non, e_isi_tyInt_non, e_isi_tyInt_bl, e_isi_tyInt_int, e_isi_tyInt_str, e_isi_tyInt_tup, e_isi_tyInt_lst, e_isi_tyInt_scr, e_isi_tyInt_dic, e_isi_tyBool_non, e_isi_tyBool_bl, e_isi_tyBool_int, e_isi_tyBool_str, e_isi_tyBool_tup, e_isi_tyBool_lst, e_isi_tyBool_scr, e_isi_tyBool_dic, e_isi_tyStr_non, e_isi_tyStr_bl, e_isi_tyStr_int, e_isi_tyStr_str, e_isi_tyStr_tup, e_isi_tyStr_lst, e_isi_tyStr_scr, e_isi_tyStr_dic, e_isi_tyTuple_non, e_isi_tyTuple_bl, e_isi_tyTuple_int, e_isi_tyTuple_str, e_isi_tyTuple_tup, e_isi_tyTuple_lst, e_isi_tyTuple_scr, e_isi_tyTuple_dic, e_isi_tyList_non, e_isi_tyList_bl, e_isi_tyList_int, e_isi_tyList_str, e_isi_tyList_tup, e_isi_tyList_lst, e_isi_tyList_scr, e_isi_tyList_dic, e_isi_tyDict_non, e_isi_tyDict_bl, e_isi_tyDict_int, e_isi_tyDict_str, e_isi_tyDict_tup, e_isi_tyDict_lst, e_isi_tyDict_scr, e_isi_tyDict_dic, e_tup_n, List.set_cons_zero, List.set_cons_succ, List.set_nil, List.length_cons, List.length_nil, List.length_map, List.length_append, List.contains_nil, List.contains_cons, List.replicate_succ, List.replicate_zero, List.cons_append, List.nil_append, List.append_nil, List.map_cons, List.map_nil, List.all_cons, List.all_nil, List.lookup_cons, List.isEmpty_nil, List.isEmpty_cons, Option.getD_some, Option.getD_none, Option.map_some, Option.map_none, Option.bind_some, Option.bind_none, List.getD_cons_zero, List.getD_cons_succ, if_true, if_false, ite_true, ite_false, Bool.false_eq_true, reduceIte, reduceCtorEq, Bool.not_true, Bool.not_false, Bool.not_not, Bool.and_true, Bool.true_and, Bool.and_false, Bool.false_and, Bool.or_true, Bool.true_or, Bool.or_false, Bool.false_or, and_true, true_and, and_false, false_and, and_self, decide_true, decide_false, decide_eq_true_eq, Bool.not_eq_true', Bool.not_eq_eq_eq_not, Nat.zero_add, Nat.add_zero, Nat.reduceAdd, Nat.reduceSub, Nat.reduceLT, Nat.reduceLeDiff, Nat.reduceEqDiff, Nat.reduceBEq, Int.reduceLT, Int.reduceLE, Int.reduceEq, beq_self_eq_true, ne_eq, not_true_eq_false, not_false_eq_true, eq_self, Nat.zero_le, le_size, lt_size, fr_d__law_draw, ar_d__law_draw, io_d__law_draw, fr_d__law_kinds, ar_d__law_kinds, io_d__law_kinds, fr_d__law_of, ar_d__law_of, io_d__law_of, fr_d__law_unlike, ar_d__law_unlike, io_d__law_unlike, fr_d__law_history, ar_d__law_history, io_d__law_history, fr_d__law_atom_holds, ar_d__law_atom_holds, io_d__law_atom_holds, fr_d__law_is, ar_d__law_is, io_d__law_is, fr_d__law_some, ar_d__law_some, io_d__law_some, fr_d__law_atom, ar_d__law_atom, io_d__law_atom, fr_d__law_atoms, ar_d__law_atoms, io_d__law_atoms, fr_d__law_rule, ar_d__law_rule, io_d__law_rule, fr_d_is_ascending, ar_d_is_ascending, io_d_is_ascending, fr_d_is_one_of, ar_d_is_one_of, io_d_is_one_of, fr_d_is_day, ar_d_is_day, io_d_is_day, fr_d_wrong_at, ar_d_wrong_at, io_d_wrong_at, fr_d_wrong_day, ar_d_wrong_day, io_d_wrong_day, fr_d_check_history, ar_d_check_history, io_d_check_history, fr_d_trees_in, ar_d_trees_in, io_d_trees_in, fr_d_atoms_of, ar_d_atoms_of, io_d_atoms_of, fr_d_last_of, ar_d_last_of, io_d_last_of, fr_d_are_kinds, ar_d_are_kinds, io_d_are_kinds, fr_d_is_whole, ar_d_is_whole, io_d_is_whole, fr_d_is_number, ar_d_is_number, io_d_is_number, fr_d_is_atom, ar_d_is_atom, io_d_is_atom, fr_d_is_tuple_of, ar_d_is_tuple_of, io_d_is_tuple_of, fr_d_is_rule, ar_d_is_rule, io_d_is_rule, fr_d_check_rule, ar_d_check_rule, io_d_check_rule, fr_d_has_some, ar_d_has_some, io_d_has_some, fr_d_is_last, ar_d_is_last, io_d_is_last, fr_d_atom_holds, ar_d_atom_holds, io_d_atom_holds, fr_d_holds_for, ar_d_holds_for, io_d_holds_for, fr_d_holds, ar_d_holds, io_d_holds, fr_d__law_right, ar_d__law_right, io_d__law_right, fr_d__law_well, ar_d__law_well, io_d__law_well, fr_d_law, ar_d_law, io_d_law, fr_m__law_holds, ar_m__law_holds, io_m__law_holds, fs__law_holds, fa__law_holds, fd__law_holds, fr_m__law_nodes, ar_m__law_nodes, io_m__law_nodes, fs__law_nodes, fa__law_nodes, fd__law_nodes, fr_m__law_tree, ar_m__law_tree, io_m__law_tree, fs__law_tree, fa__law_tree, fd__law_tree, fr_m_all_atoms, ar_m_all_atoms, io_m_all_atoms, fs_all_atoms, fa_all_atoms, fd_all_atoms, fr_m_nodes_in, ar_m_nodes_in, io_m_nodes_in, fs_nodes_in, fa_nodes_in, fd_nodes_in, fr_m_holds_by, ar_m_holds_by, io_m_holds_by, fs_holds_by, fa_holds_by, fd_holds_by, ar_c_0, e_countD, e_lookD, e_catL, e_listL_lst, e_listL_tup, if_or, if_and, nc_0, nc_1, nc_2, nc_3, nc_4, nc_5, nc_6, nc_7, nc_8, nc_9, nc_10, nc_11, nc_12, or_true, true_or, or_false, false_or, or_self, nw_ever_after, nw_ever_within, nw_ever_times, nw_ever_not, nw_ever_all, nw_ever_any, nw_after_ever, nw_after_within, nw_after_times, nw_after_not, nw_after_all, nw_after_any, nw_within_ever, nw_within_after, nw_within_times, nw_within_not, nw_within_all, nw_within_any, nw_times_ever, nw_times_after, nw_times_within, nw_times_not, nw_times_all, nw_times_any, nw_not_ever, nw_not_after, nw_not_within, nw_not_times, nw_not_all, nw_not_any, nw_all_ever, nw_all_after, nw_all_within, nw_all_times, nw_all_not, nw_all_any, nw_any_ever, nw_any_after, nw_any_within, nw_any_times, nw_any_not, nw_any_all, subD_int, subD_var, ixN_0, ixN_1, ixN_2, at0, at1, at2, at3, $[$ts:term],*])
/-! ### the rule over the dict -/
theorem key_strs : ∀ k : List Str, Ds.key (k.map .str) = some (k.map .text)
  | [] => rfl
  | z :: k => by
    show (D.key (.str z)).bind (fun x => (Ds.key (k.map .str)).map (x :: ·)) = _
    rw [key_strs k]
    rfl
theorem dep_strs : ∀ k : List Str, NestedKey.depthAll (k.map .text) = 0
  | [] => rfl
  | z :: k => by
    show max 0 (NestedKey.depthAll (k.map .text)) = 0
    rw [dep_strs k]
    rfl
theorem atom_key {d : D} (h : AtomP d) : (keyT d).isSome = true := by
  cases h <;> simp [keyT, D.key, Ds.key, key_strs, NestedKey.depth, NestedKey.depthAll, dep_strs]
mutual
theorem key_inj : ∀ {d e : D} {k : NestedKey}, D.key d = some k → D.key e = some k → d = e
  | .non, e, k, h, g => by cases h; cases e <;> first | rfl | (cases g; done) | (simp [D.key] at g)
  | .int i, e, k, h, g => by
    cases h
    cases e <;> first | (simp [D.key] at g; done) | (simp [D.key] at g; rw [g])
  | .str z, e, k, h, g => by
    cases h
    cases e <;> first | (simp [D.key] at g; done) | (simp [D.key] at g; rw [g])
  | .tup xs, e, k, h, g => by
    obtain ⟨ks, h1, rfl⟩ := Option.map_eq_some_iff.mp (show (Ds.key xs).map NestedKey.tup = some k from h)
    cases e with
    | tup ys =>
      obtain ⟨js, g1, g2⟩ := Option.map_eq_some_iff.mp (show (Ds.key ys).map NestedKey.tup = some _ from g)
      cases g2
      rw [keys_inj h1 g1]
    | _ => simp [D.key] at g
  | .bl _, _, _, h, _ => by cases h
  | .lst _, _, _, h, _ => by cases h
  | .dic _, _, _, h, _ => by cases h
  | .clo _ _, _, _, h, _ => by cases h
  | .obj _ _, _, _, h, _ => by cases h
  | .scr _, _, _, h, _ => by cases h
theorem keys_inj : ∀ {xs ys : List D} {ks : List NestedKey}, Ds.key xs = some ks → Ds.key ys = some ks → xs = ys
  | [], [], _, _, _ => rfl
  | [], y :: ys, _, h, g => by
    cases h
    obtain ⟨k, _, g2⟩ := Option.bind_eq_some_iff.mp (show (D.key y).bind _ = some _ from g)
    obtain ⟨ks, _, g3⟩ := Option.map_eq_some_iff.mp g2
    cases g3
  | x :: xs, [], _, h, g => by
    cases g
    obtain ⟨k, _, g2⟩ := Option.bind_eq_some_iff.mp (show (D.key x).bind _ = some _ from h)
    obtain ⟨ks, _, g3⟩ := Option.map_eq_some_iff.mp g2
    cases g3
  | x :: xs, y :: ys, _, h, g => by
    obtain ⟨k, h1, h2⟩ := Option.bind_eq_some_iff.mp (show (D.key x).bind _ = some _ from h)
    obtain ⟨ks, h3, h4⟩ := Option.map_eq_some_iff.mp h2
    obtain ⟨j, g1, g2⟩ := Option.bind_eq_some_iff.mp (show (D.key y).bind _ = some _ from g)
    obtain ⟨js, g3, g4⟩ := Option.map_eq_some_iff.mp g2
    rw [← h4] at g4
    cases g4
    rw [key_inj h1 g1, keys_inj h3 g3]
end
mutual
theorem eqv_key : ∀ {d e : D}, (D.key d).isSome = true → (D.key e).isSome = true → PyData.eqv d.toP e.toP = true → d = e
  | .non, e, _, h, g => by cases e <;> first | rfl | (simp [D.toP, PyData.eqv] at g; done) | (cases h; done)
  | .int i, e, _, h, g => by
    cases e <;> first | (cases h; done) | (simp [D.toP, PyData.eqv] at g; done) | (simp [D.toP, PyData.eqv] at g; rw [g])
  | .str z, e, _, h, g => by
    cases e <;> first | (cases h; done) | (simp [D.toP, PyData.eqv] at g; done) | (simp [D.toP, PyData.eqv] at g; rw [g])
  | .tup xs, e, hd, h, g => by
    cases e with
    | tup ys =>
      have hd : (Ds.key xs).isSome = true := by
        have : ((Ds.key xs).map NestedKey.tup).isSome = true := hd
        rwa [Option.isSome_map] at this
      have h : (Ds.key ys).isSome = true := by
        have : ((Ds.key ys).map NestedKey.tup).isSome = true := h
        rwa [Option.isSome_map] at this
      rw [eqvs_key hd h (by simpa [D.toP, PyData.eqv] using g)]
    | _ => first | (cases h; done) | (simp [D.toP, PyData.eqv] at g)
  | .bl _, _, h, _, _ => by cases h
  | .lst _, _, h, _, _ => by cases h
  | .dic _, _, h, _, _ => by cases h
  | .clo _ _, _, h, _, _ => by cases h
  | .obj _ _, _, h, _, _ => by cases h
  | .scr _, _, h, _, _ => by cases h
theorem eqvs_key : ∀ {xs ys : List D}, (Ds.key xs).isSome = true → (Ds.key ys).isSome = true → PyData.eqvAll (Ds.toP xs) (Ds.toP ys) = true → xs = ys
  | [], [], _, _, _ => rfl
  | [], y :: ys, _, _, g => by simp [Ds.toP, PyData.eqvAll] at g
  | x :: xs, [], _, _, g => by simp [Ds.toP, PyData.eqvAll] at g
  | x :: xs, y :: ys, h, g, e => by
    have split : ∀ {x : D} {xs : List D}, (Ds.key (x :: xs)).isSome = true → (D.key x).isSome = true ∧ (Ds.key xs).isSome = true := fun {x xs} h => by
      have h : ((D.key x).bind fun k => (Ds.key xs).map (k :: ·)).isSome = true := h
      cases q : D.key x with
      | none => rw [q] at h; cases h
      | some k =>
        rw [q] at h
        have h : ((Ds.key xs).map (k :: ·)).isSome = true := h
        rw [Option.isSome_map] at h
        exact ⟨rfl, h⟩
    obtain ⟨h1, h2⟩ := split h
    obtain ⟨g1, g2⟩ := split g
    rw [Ds.toP, Ds.toP, PyData.eqvAll, Bool.and_eq_true] at e
    rw [eqv_key h1 g1 e.1, eqvs_key h2 g2 e.2]
end
theorem keyT_D {d : D} (h : (keyT d).isSome = true) : (D.key d).isSome = true := by
  obtain ⟨k, hk⟩ := Option.isSome_iff_exists.mp h
  rw [(keyT_of hk).1]
  rfl
theorem dd_acc : ∀ {r acc : List D} {x : D}, x ∈ acc → x ∈ dd acc r
  | [], _, _, h => h
  | d :: r, acc, x, h => by
    show x ∈ dd (if seenB d acc = true then acc else acc ++ [d]) r
    refine dd_acc ?_
    split
    · exact h
    · exact List.mem_append_left _ h
theorem dd_all : ∀ {r acc : List D} {x : D}, (∀ y ∈ acc, AtomP y) → (∀ y ∈ r, AtomP y) → x ∈ r → x ∈ dd acc r
  | d :: r, acc, x, ha, hr, h => by
    show x ∈ dd (if seenB d acc = true then acc else acc ++ [d]) r
    rcases List.mem_cons.mp h with z | z
    · subst z
      refine dd_acc ?_
      split
      · rename_i hs
        unfold seenB at hs
        obtain ⟨y, hy, e⟩ := List.any_eq_true.mp hs
        have := eqv_key (keyT_D (atom_key (ha y hy))) (keyT_D (atom_key (hr _ List.mem_cons_self))) e
        rw [← this]
        exact hy
      · exact List.mem_append_right _ (List.mem_singleton.mpr rfl)
    · refine dd_all ?_ (fun y hy => hr y (List.mem_cons_of_mem _ hy)) z
      split
      · exact ha
      · intro y hy
        rcases List.mem_append.mp hy with q | q
        · exact ha y q
        · rw [List.mem_singleton.mp q]; exact hr _ List.mem_cons_self
theorem look_map {g : D → D} : ∀ {ds : List D} {x : D}, (keyT x).isSome = true → x ∈ ds → (keyT x).bind (lookE (ds.map fun d => (d, g d))) = some (g x)
  | d :: ds, x, hk, h => by
    obtain ⟨k, e⟩ := Option.isSome_iff_exists.mp hk
    rw [e]
    show lookE ((d, g d) :: ds.map fun d => (d, g d)) k = _
    unfold lookE
    by_cases q : keyT d = some k
    · rw [if_pos q, key_inj (keyT_of q).1 (keyT_of e).1]
    · rw [if_neg q]
      rcases List.mem_cons.mp h with z | z
      · rw [← z, e] at q; exact absurd rfl q
      · have := look_map (g := g) (ds := ds) hk z
        rw [e] at this
        exact this
/-- a rule's meaning -/
def satT (h : List (List Str)) : Nat → D → Bool
  | l + 1, .tup (.str w :: x :: r) => if w = "not" then !satT h l x else if w = "all" then (itemsB x).all (satT h l) else if w = "any" then (itemsB x).any (satT h l) else satA h (.tup (.str w :: x :: r))
  | _, _ => false
theorem satT_s (h : List (List Str)) (l : Nat) (w : Str) (x : D) (r : List D) : satT h (l + 1) (.tup (.str w :: x :: r)) = if w = "not" then !satT h l x else if w = "all" then (itemsB x).all (satT h l) else if w = "any" then (itemsB x).any (satT h l) else satA h (.tup (.str w :: x :: r)) := rfl
theorem law_holds_den {h : List (List Str)} (hd : ∀ l ∈ h, l.Sublist k6) (hl : h.length ≤ 1000) : ∀ (k : Nat) {l : Nat} {v : D}, l < k → treeB l v = true → recDen m__law_holds k [v, histD h] = .ok (.bl (satT h l v)) []
  | 0, _, _, q, _ => absurd q (Nat.not_lt_zero _)
  | k + 1, l, v, hk, hv => by
    have hs := size_is
    apply FO.eq_of
    show FO.Post _ _ _
    rw [fz_recDen]
    cases treeP_of hv with
    | not g => wp_walk using m__law_holds, eqD_str, law_holds_den hd hl k (by omega) g, satT_s
    | all h1 h2 h3 =>
      rename_i l ts
      wp_walk using m__law_holds, eqD_str, inDs2, satT_s
      refine pz_lc1 (ρ1 := [.v (.tup [.str "all", .tup ts]), .v (histD h), .n, .n]) (ds := ts) (fun _ => true) (fun d => .bl (satT h l d)) rfl rfl (by omega) (fun d hd => ?_) (fun d hdm _ => ?_) ?_
      · wp_walk
      · wp_walk using law_holds_den hd hl k (by omega) (h3 d hdm)
      · wp_walk using filt_true, eqD_str, bls_map, all_map_id
        rfl
    | any h1 h2 h3 =>
      rename_i l ts
      wp_walk using m__law_holds, eqD_str, inDs2, satT_s
      refine pz_lc1 (ρ1 := [.v (.tup [.str "any", .tup ts]), .v (histD h), .n, .n]) (ds := ts) (fun _ => true) (fun d => .bl (satT h l d)) rfl rfl (by omega) (fun d hd => ?_) (fun d hdm _ => ?_) ?_
      · wp_walk
      · wp_walk using law_holds_den hd hl k (by omega) (h3 d hdm)
      · wp_walk using filt_true, eqD_str, bls_map, any_map_id
        rfl
    | atom w1 w2 w3 g => wp_walk using m__law_holds, eqD_str, inDs2, w1, w2, w3, law_atom_holds_den (atomP_of g) g hd hl, satT_s
theorem holds_by_den {h : List (List Str)} {es : List (D × D)} : ∀ (k : Nat) {l : Nat} {v : D}, l < k → treeB l v = true → (∀ x ∈ atomsL l v, lookD (.dic es) x = some (.bl (satA h x))) → recDen m_holds_by k [v, .dic es] = .ok (.bl (satT h l v)) []
  | 0, _, _, q, _, _ => absurd q (Nat.not_lt_zero _)
  | k + 1, l, v, hk, hv, hx => by
    have hs := size_is
    apply FO.eq_of
    show FO.Post _ _ _
    rw [fz_recDen]
    cases treeP_of hv with
    | not g =>
      rw [atomsL_s, if_pos rfl] at hx
      wp_walk using m_holds_by, eqD_str, holds_by_den k (by omega) g hx, satT_s
    | all h1 h2 h3 =>
      rename_i l ts
      rw [atomsL_s] at hx
      simp only [nw_all_not, if_false, if_true, true_or] at hx
      have hx : ∀ x ∈ ts.flatMap (atomsL l), lookD (.dic es) x = some (.bl (satA h x)) := hx
      wp_walk using m_holds_by, eqD_str, satT_s
      refine pz_lc1 (ρ1 := [.v (.tup [.str "all", .tup ts]), .v (.dic es), .n]) (ds := ts) (fun _ => true) (fun d => .bl (satT h l d)) rfl rfl (by omega) (fun d hd => ?_) (fun d hdm _ => ?_) ?_
      · wp_walk
      · wp_walk using holds_by_den k (by omega) (h3 d hdm) (fun x hxm => hx x (List.mem_flatMap.mpr ⟨d, hdm, hxm⟩))
      · wp_walk using filt_true, bls_map, all_map_id
        rfl
    | any h1 h2 h3 =>
      rename_i l ts
      rw [atomsL_s] at hx
      simp only [nw_any_not, if_false, if_true, or_true] at hx
      have hx : ∀ x ∈ ts.flatMap (atomsL l), lookD (.dic es) x = some (.bl (satA h x)) := hx
      wp_walk using m_holds_by, eqD_str, satT_s
      refine pz_lc1 (ρ1 := [.v (.tup [.str "any", .tup ts]), .v (.dic es), .n]) (ds := ts) (fun _ => true) (fun d => .bl (satT h l d)) rfl rfl (by omega) (fun d hd => ?_) (fun d hdm _ => ?_) ?_
      · wp_walk
      · wp_walk using holds_by_den k (by omega) (h3 d hdm) (fun x hxm => hx x (List.mem_flatMap.mpr ⟨d, hdm, hxm⟩))
      · wp_walk using filt_true, bls_map, any_map_id
        rfl
    | atom w1 w2 w3 g =>
      rw [atomsL_s, if_neg w1, if_neg (by rintro (z | z); exact w2 z; exact w3 z)] at hx
      have e := hx _ (List.mem_singleton.mpr rfl)
      unfold lookD at e
      wp_walk using m_holds_by, eqD_str, w1, w2, w3, e, satT_s
end K02
set_option Elab.async false
set_option maxRecDepth 100000
set_option maxHeartbeats 4000000
namespace K02
open PySem PySem.Spec L2 Ev
local macro_rules
  | `(tactic| wp_walk) => `(tactic| simp -dsimp only [↓w_den_int, ↓w_den_str, ↓w_den_bl, ↓w_den_non, ↓w_den_glo, ↓w_den_dict0, ↓w_den_lam, ↓w_con_at, ↓w_as_nil, ↓w_as_cons, ↓w_den_tup, ↓w_den_lst, ↓w_den_bin, ↓w_den_neg, ↓w_den_cmp, ↓w_tst_cmp, ↓w_den_chn, ↓w_tst_chn, ↓w_den_idx, ↓w_den_sli, ↓w_po_none_at, ↓w_po_some_at, ↓w_den_revT, ↓w_den_bfn, ↓w_den_tfn, ↓w_den_isi, ↓w_den_oidx, ↓w_den_olen, ↓w_den_new, ↓w_den_call, ↓w_den_call0, ↓w_den_callf, ↓w_den_callkw, ↓w_den_callv, ↓w_den_and, ↓w_den_or, ↓w_tst_and, ↓w_tst_or, ↓w_one_dAnd, ↓w_one_dOr, ↓w_one_tAnd, ↓w_one_tOr, ↓w_cons_dAnd, ↓w_cons_dOr, ↓w_cons_tAnd, ↓w_cons_tOr, ↓w_den_not, ↓w_tst_not, ↓w_den_ife, ↓w_den_repr, ↓w_tst_repr, ↓w_tst_var, ↓w_tst_isi, ↓w_tst_call, ↓w_tst_callv, ↓w_tst_bfn, ↓w_toD_at, ↓w_ar_nil, ↓w_ar_cons, ↓w_ar_own, ↓w_sr_val, ↓w_sr_enum, ↓w_sr_zip, ↓w_sr_range1, ↓w_cs_nil, ↓w_cs_one, ↓w_fx_lst, ↓w_fx_lc, ↓w_fx_call, ↓w_fx_listRg1, ↓w_den_gindex, ↓w_den_lindex, ↓w_bl_nil, ↓w_bl_cons, ↓w_sm_ret, ↓w_sm_retF, ↓w_sm_retO, ↓w_sm_ifs, ↓w_sm_for, ↓w_sm_set, ↓w_sm_asg, ↓w_sm_frz, ↓w_sm_parM, ↓w_sm_own, ↓w_sm_app, ↓w_sm_stuck, ↓w_ms_nil, ↓w_ms_v, ↓w_ms_f, ↓pz_ok, ↓pz_er, ↓pz_no, ↓pz_bind, ↓pz_ite, ↓sz_ite, ↓fz_ite, ↓sz_nx, ↓sz_bk, ↓sz_ct, ↓sz_rt, ↓sz_rf, ↓sz_er, ↓sz_no, ↓sz_after, ↓sz_next, ↓fz_ok, ↓fz_er, ↓fz_no, ↓pz_lift, ↓pz_var, ↓pz_dvar, ↓pz_dcon, ↓pz_dRepr, ↓pz_oidxD, ↓pz_olenD, ↓pz_callK, ↓pz_callfK, ↓pz_callF, ↓pz_callD, ↓pz_kwD, ↓pz_callvD, ↓sz_ownD, ↓sz_appD, ↓sz_retO, ↓sz_expr, ↓pz_kxnil, ↓pz_kxcons, ↓fz_cden, ↓oz_map, ↓oz_bind, ↓oz_if, ↓oz_ite, ↓pz_dChn, ↓pz_pop, ↓pz_oinD, ↓w_oin_den, ↓w_oin_tst, ↓w_fx_add, ↓w_fx_list, ↓w_fx_lc2, ↓w_den_didx, ↓w_den_lcount, ↓w_den_dc, if_F, wn_nx, wn_bk, wn_ct, wn_rt, wn_rf, wn_er, lp_nx, lp_bk, lp_ct, lp_rt, lp_rf, lp_er, df_nx, df_rt, df_rf, df_er, oz_some, oz_none, isO_n, isO_v, isO_o, slV_z, slV_s, slO_z, slO_s, slN_z, slN_s, isOwn_z, isOwn_s, lstAt_sl, nameD_sl, frzD_sl, fill_nil, fill_cons, put_nil, put_cons, outsE_nil, outsE_cons, kx_ks, kx_ks0, sem_den, sem_io, sem_fresh, sem_ar, csem_den, csem_io, csem_fresh, csem_ar, ar_nil_own, ar_cons_own, ar_own_own, tg_name, tg_tup, tg_sub, tgs_nil, tgs_cons, g_len, g_abs, g_max, g_min, g_divmod, g_all, g_any, g_sum, g_int, g_list, g_tuple, up, nilD, consD, putM, startE, start0, wipeE, noOwn, okF, e_lenD_tup, e_lenD_lst, e_lenD_scr, e_absD_int, e_maxD_int, e_minD_int, e_maxD_lst, e_minD_lst, e_divmodD_int, e_allD_lst, e_anyD_lst, e_sumD_lst, e_intD_int, e_intD_bl, e_listD_lst, e_listD_tup, e_listD_scr, e_tupleD_lst, e_tupleD_tup, e_idxD_tup, e_idxD_lst, e_idxD_scr, e_sliD_tup, e_sliD_lst, e_sliD_scr, e_revTD_tup, e_itemsOf_tup, e_itemsOf_lst, e_itemsOf_scr, e_itemsOf_str, e_enumD_lst, e_enumD_tup, e_zipsD_lst, e_zipsD_tup, e_r1D_int, e_ltD_int, e_ltD_str, e_leD_int, e_isNon_non, e_isNon_bl, e_isNon_int, e_isNon_str, e_isNon_tup, e_isNon_lst, e_isNon_dic, e_isD_bl, e_inD_strt, e_inD_strl, e_inD_intt, e_inD_intl, e_opAdd_int, e_opAdd_str, e_opAdd_tup, e_opAdd_lst, e_opSub_int, e_opMul_int, e_opFdiv_int, e_opMod_int, e_truth_non, e_truth_bl, e_truth_int, e_truth_tup, e_truth_lst, e_truth_dic, e_isL_lst, e_isLst_lst, e_mapB_def, e_cmpD_Lt, e_cmpD_Gt, e_cmpD_LtE, e_cmpD_GtE, e_cmpD_Eq, e_cmpD_NotEq, e_cmpD_In, e_cmpD_NotIn, e_cmpD_Is, e_cmpD_IsNot, e_binD_Add, e_binD_Sub, e_binD_Mult, e_binD_FloorDiv, e_binD_Mod, e_binD_Pow, e_isD_non, e_isi_tyInt_non, e_isi_tyInt_bl, e_isi_tyInt_int, e_isi_tyInt_str, e_isi_tyInt_tup, e_isi_tyInt_lst, e_isi_tyInt_scr, e_isi_tyInt_dic, e_isi_tyBool_non, e_isi_tyBool_bl, e_isi_tyBool_int, e_isi_tyBool_str, e_isi_tyBool_tup, e_isi_tyBool_lst, e_isi_tyBool_scr, e_isi_tyBool_dic, e_isi_tyStr_non, e_isi_tyStr_bl, e_isi_tyStr_int, e_isi_tyStr_str, e_isi_tyStr_tup, e_isi_tyStr_lst, e_isi_tyStr_scr, e_isi_tyStr_dic, e_isi_tyTuple_non, e_isi_tyTuple_bl, e_isi_tyTuple_int, e_isi_tyTuple_str, e_isi_tyTuple_tup, e_isi_tyTuple_lst, e_isi_tyTuple_scr, e_isi_tyTuple_dic, e_isi_tyList_non, e_isi_tyList_bl, e_isi_tyList_int, e_isi_tyList_str, e_isi_tyList_tup, e_isi_tyList_lst, e_isi_tyList_scr, e_isi_tyList_dic, e_isi_tyDict_non, e_isi_tyDict_bl, e_isi_tyDict_int, e_isi_tyDict_str, e_isi_tyDict_tup, e_isi_tyDict_lst, e_isi_tyDict_scr, e_isi_tyDict_dic, e_tup_n, List.set_cons_zero, List.set_cons_succ, List.set_nil, List.length_cons, List.length_nil, List.length_map, List.length_append, List.contains_nil, List.contains_cons, List.replicate_succ, List.replicate_zero, List.cons_append, List.nil_append, List.append_nil, List.map_cons, List.map_nil, List.all_cons, List.all_nil, List.lookup_cons, List.isEmpty_nil, List.isEmpty_cons, Option.getD_some, Option.getD_none, Option.map_some, Option.map_none, Option.bind_some, Option.bind_none, List.getD_cons_zero, List.getD_cons_succ, if_true, if_false, ite_true, ite_false, Bool.false_eq_true, reduceIte, reduceCtorEq, Bool.not_true, Bool.not_false, Bool.not_not, Bool.and_true, Bool.true_and, Bool.and_false, Bool.false_and, Bool.or_true, Bool.true_or, Bool.or_false, Bool.false_or, and_true, true_and, and_false, false_and, and_self, decide_true, decide_false, decide_eq_true_eq, Bool.not_eq_true', Bool.not_eq_eq_eq_not, Nat.zero_add, Nat.add_zero, Nat.reduceAdd, Nat.reduceSub, Nat.reduceLT, Nat.reduceLeDiff, Nat.reduceEqDiff, Nat.reduceBEq, Int.reduceLT, Int.reduceLE, Int.reduceEq, beq_self_eq_true, ne_eq, not_true_eq_false, not_false_eq_true, eq_self, Nat.zero_le, le_size, lt_size, fr_d__law_draw, ar_d__law_draw, io_d__law_draw, fr_d__law_kinds, ar_d__law_kinds, io_d__law_kinds, fr_d__law_of, ar_d__law_of, io_d__law_of, fr_d__law_unlike, ar_d__law_unlike, io_d__law_unlike, fr_d__law_history, ar_d__law_history, io_d__law_history, fr_d__law_atom_holds, ar_d__law_atom_holds, io_d__law_atom_holds, fr_d__law_is, ar_d__law_is, io_d__law_is, fr_d__law_some, ar_d__law_some, io_d__law_some, fr_d__law_atom, ar_d__law_atom, io_d__law_atom, fr_d__law_atoms, ar_d__law_atoms, io_d__law_atoms, fr_d__law_rule, ar_d__law_rule, io_d__law_rule, fr_d_is_ascending, ar_d_is_ascending, io_d_is_ascending, fr_d_is_one_of, ar_d_is_one_of, io_d_is_one_of, fr_d_is_day, ar_d_is_day, io_d_is_day, fr_d_wrong_at, ar_d_wrong_at, io_d_wrong_at, fr_d_wrong_day, ar_d_wrong_day, io_d_wrong_day, fr_d_check_history, ar_d_check_history, io_d_check_history, fr_d_trees_in, ar_d_trees_in, io_d_trees_in, fr_d_atoms_of, ar_d_atoms_of, io_d_atoms_of, fr_d_last_of, ar_d_last_of, io_d_last_of, fr_d_are_kinds, ar_d_are_kinds, io_d_are_kinds, fr_d_is_whole, ar_d_is_whole, io_d_is_whole, fr_d_is_number, ar_d_is_number, io_d_is_number, fr_d_is_atom, ar_d_is_atom, io_d_is_atom, fr_d_is_tuple_of, ar_d_is_tuple_of, io_d_is_tuple_of, fr_d_is_rule, ar_d_is_rule, io_d_is_rule, fr_d_check_rule, ar_d_check_rule, io_d_check_rule, fr_d_has_some, ar_d_has_some, io_d_has_some, fr_d_is_last, ar_d_is_last, io_d_is_last, fr_d_atom_holds, ar_d_atom_holds, io_d_atom_holds, fr_d_holds_for, ar_d_holds_for, io_d_holds_for, fr_d_holds, ar_d_holds, io_d_holds, fr_d__law_right, ar_d__law_right, io_d__law_right, fr_d__law_well, ar_d__law_well, io_d__law_well, fr_d_law, ar_d_law, io_d_law, fr_m__law_holds, ar_m__law_holds, io_m__law_holds, fs__law_holds, fa__law_holds, fd__law_holds, fr_m__law_nodes, ar_m__law_nodes, io_m__law_nodes, fs__law_nodes, fa__law_nodes, fd__law_nodes, fr_m__law_tree, ar_m__law_tree, io_m__law_tree, fs__law_tree, fa__law_tree, fd__law_tree, fr_m_all_atoms, ar_m_all_atoms, io_m_all_atoms, fs_all_atoms, fa_all_atoms, fd_all_atoms, fr_m_nodes_in, ar_m_nodes_in, io_m_nodes_in, fs_nodes_in, fa_nodes_in, fd_nodes_in, fr_m_holds_by, ar_m_holds_by, io_m_holds_by, fs_holds_by, fa_holds_by, fd_holds_by, ar_c_0, e_countD, e_lookD, e_catL, e_listL_lst, e_listL_tup, if_or, if_and, nc_0, nc_1, nc_2, nc_3, nc_4, nc_5, nc_6, nc_7, nc_8, nc_9, nc_10, nc_11, nc_12, or_true, true_or, or_false, false_or, or_self, nw_ever_after, nw_ever_within, nw_ever_times, nw_ever_not, nw_ever_all, nw_ever_any, nw_after_ever, nw_after_within, nw_after_times, nw_after_not, nw_after_all, nw_after_any, nw_within_ever, nw_within_after, nw_within_times, nw_within_not, nw_within_all, nw_within_any, nw_times_ever, nw_times_after, nw_times_within, nw_times_not, nw_times_all, nw_times_any, nw_not_ever, nw_not_after, nw_not_within, nw_not_times, nw_not_all, nw_not_any, nw_all_ever, nw_all_after, nw_all_within, nw_all_times, nw_all_not, nw_all_any, nw_any_ever, nw_any_after, nw_any_within, nw_any_times, nw_any_not, nw_any_all, subD_int, subD_var, ixN_0, ixN_1, ixN_2, at0, at1, at2, at3])
  | `(tactic| wp_walk using $ts,*) => `(tactic| simp -dsimp only [↓w_den_int, ↓w_den_str, ↓w_den_bl, ↓w_den_non, ↓w_den_glo, ↓w_den_dict0, ↓w_den_lam, ↓w_con_at, ↓w_as_nil, ↓w_as_cons, ↓w_den_tup, ↓w_den_lst, ↓w_den_bin, ↓w_den_neg, ↓w_den_cmp, ↓w_tst_cmp, ↓w_den_chn, ↓w_tst_chn, ↓w_den_idx, ↓w_den_sli, ↓w_po_none_at, ↓w_po_some_at, ↓w_den_revT, ↓w_den_bfn, ↓w_den_tfn, ↓w_den_isi, ↓w_den_oidx, ↓w_den_olen, ↓w_den_new, ↓w_den_call, ↓w_den_call0, ↓w_den_callf, ↓w_den_callkw, ↓w_den_callv, ↓w_den_and, ↓w_den_or, ↓w_tst_and, ↓w_tst_or, ↓w_one_dAnd, ↓w_one_dOr, ↓w_one_tAnd, ↓w_one_tOr, ↓w_cons_dAnd, ↓w_cons_dOr, ↓w_cons_tAnd, ↓w_cons_tOr, ↓w_den_not, ↓w_tst_not, ↓w_den_ife, ↓w_den_repr, ↓w_tst_repr, ↓w_tst_var, ↓w_tst_isi, ↓w_tst_call, ↓w_tst_callv, ↓w_tst_bfn, ↓w_toD_at, ↓w_ar_nil, ↓w_ar_cons, ↓w_ar_own, ↓w_sr_val, ↓w_sr_enum, ↓w_sr_zip, ↓w_sr_range1, ↓w_cs_nil, ↓w_cs_one, ↓w_fx_lst, ↓w_fx_lc, ↓w_fx_call, ↓w_fx_listRg1, ↓w_den_gindex, ↓w_den_lindex, ↓w_bl_nil, ↓w_bl_cons, ↓w_sm_ret, ↓w_sm_retF, ↓w_sm_retO, ↓w_sm_ifs, ↓w_sm_for, ↓w_sm_set, ↓w_sm_asg, ↓w_sm_frz, ↓w_sm_parM, ↓w_sm_own, ↓w_sm_app, ↓w_sm_stuck, ↓w_ms_nil, ↓w_ms_v, ↓w_ms_f, ↓pz_ok, ↓pz_er, ↓pz_no, ↓pz_bind, ↓pz_ite, ↓sz_ite, ↓fz_ite, ↓sz_nx, ↓sz_bk, ↓sz_ct, ↓sz_rt, ↓sz_rf, ↓sz_er, ↓sz_no, ↓sz_after, ↓sz_next, ↓fz_ok, ↓fz_er, ↓fz_no, ↓pz_lift, ↓pz_var, ↓pz_dvar, ↓pz_dcon, ↓pz_dRepr, ↓pz_oidxD, ↓pz_olenD, ↓pz_callK, ↓pz_callfK, ↓pz_callF, ↓pz_callD, ↓pz_kwD, ↓pz_callvD, ↓sz_ownD, ↓sz_appD, ↓sz_retO, ↓sz_expr, ↓pz_kxnil, ↓pz_kxcons, ↓fz_cden, ↓oz_map, ↓oz_bind, ↓oz_if, ↓oz_ite, ↓pz_dChn, ↓pz_pop, ↓pz_oinD, ↓w_oin_den, ↓w_oin_tst, ↓w_fx_add, ↓w_fx_list, ↓w_fx_lc2, ↓w_den_didx, ↓w_den_lcount, ↓w_den_dc, if_F, wn_nx, wn_bk, wn_ct, wn_rt, wn_rf, wn_er, lp_nx, lp_bk, lp_ct, lp_rt, lp_rf, lp_er, df_nx, df_rt, df_rf, df_er, oz_some, oz_none, isO_n, isO_v, isO_o, slV_z, slV_s, slO_z, slO_s, slN_z, slN_s, isOwn_z, isOwn_s, lstAt_sl, nameD_sl, frzD_sl, fill_nil, fill_cons, put_nil, put_cons, outsE_nil, outsE_cons, kx_ks, kx_ks0, sem_den, sem_io, sem_fresh, sem_ar, csem_den, csem_io, csem_fresh, csem_ar, ar_nil_own, ar_cons_own, ar_own_own, tg_name, tg_tup, tg_sub, tgs_nil, tgs_cons, g_len, g_abs, g_max, g_min, g_divmod, g_all, g_any, g_sum, g_int, g_list, g_tuple, up, nilD, consD, putM, startE, start0, wipeE, noOwn, okF, e_lenD_tup, e_lenD_lst, e_lenD_scr, e_absD_int, e_maxD_int, e_minD_int, e_maxD_lst, e_minD_lst, e_divmodD_int, e_allD_lst, e_anyD_lst, e_sumD_lst, e_intD_int, e_intD_bl, e_listD_lst, e_listD_tup, e_listD_scr, e_tupleD_lst, e_tupleD_tup, e_idxD_tup, e_idxD_lst, e_idxD_scr, e_sliD_tup, e_sliD_lst, e_sliD_scr, e_revTD_tup, e_itemsOf_tup, e_itemsOf_lst, e_itemsOf_scr, e_itemsOf_str, e_enumD_lst, e_enumD_tup, e_zipsD_lst, e_zipsD_tup, e_r1D_int, e_ltD_int, e_ltD_str, e_leD_int, e_isNon_non, e_isNon_bl, e_isNon_int, e_isNon_str, e_isNon_tup, e_isNon_lst, e_isNon_dic, e_isD_bl, e_inD_strt, e_inD_strl, e_inD_intt, e_inD_intl, e_opAdd_int, e_opAdd_str, e_opAdd_tup, e_opAdd_lst, e_opSub_int, e_opMul_int, e_opFdiv_int, e_opMod_int, e_truth_non, e_truth_bl, e_truth_int, e_truth_tup, e_truth_lst, e_truth_dic, e_isL_lst, e_isLst_lst, e_mapB_def, e_cmpD_Lt, e_cmpD_Gt, e_cmpD_LtE, e_cmpD_GtE, e_cmpD_Eq, e_cmpD_NotEq, e_cmpD_In, e_cmpD_NotIn, e_cmpD_Is, e_cmpD_IsNot, e_binD_Add, e_binD_Sub, e_binD_Mult, e_binD_FloorDiv, e_binD_Mod, e_binD_Pow, e_isD_non, e_isi_tyInt_non, e_isi_tyInt_bl, e_isi_tyInt_int, e_isi_tyInt_str, e_isi_tyInt_tup, e_isi_tyInt_lst, e_isi_tyInt_scr, e_isi_tyInt_dic, e_isi_tyBool_non, e_isi_tyBool_bl, e_isi_tyBool_int, e_isi_tyBool_str, e_isi_tyBool_tup, e_isi_tyBool_lst, e_isi_tyBool_scr, e_isi_tyBool_dic, e_isi_tyStr_non, e_isi_tyStr_bl, e_isi_tyStr_int, e_isi_tyStr_str, e_isi_tyStr_tup, e_isi_tyStr_lst, e_isi_tyStr_scr, e_isi_tyStr_dic, e_isi_tyTuple_non, e_isi_tyTuple_bl, e_isi_tyTuple_int, e_isi_tyTuple_str, e_isi_tyTuple_tup, e_isi_tyTuple_lst, e_isi_tyTuple_scr, e_isi_tyTuple_dic, e_isi_tyList_non, e_isi_tyList_bl, e_isi_tyList_int, e_isi_tyList_str, e_isi_tyList_tup, e_isi_tyList_lst, e_isi_tyList_scr, e_isi_tyList_dic, e_isi_tyDict_non, e_isi_tyDict_bl, e_isi_tyDict_int, e_isi_tyDict_str, e_isi_tyDict_tup, e_isi_tyDict_lst, e_isi_tyDict_scr, e_isi_tyDict_dic, e_tup_n, List.set_cons_zero, List.set_cons_succ, List.set_nil, List.length_cons, List.length_nil, List.length_map, List.length_append, List.contains_nil, List.contains_cons, List.replicate_succ, List.replicate_zero, List.cons_append, List.nil_append, List.append_nil, List.map_cons, List.map_nil, List.all_cons, List.all_nil, List.lookup_cons, List.isEmpty_nil, List.isEmpty_cons, Option.getD_some, Option.getD_none, Option.map_some, Option.map_none, Option.bind_some, Option.bind_none, List.getD_cons_zero, List.getD_cons_succ, if_true, if_false, ite_true, ite_false, Bool.false_eq_true, reduceIte, reduceCtorEq, Bool.not_true, Bool.not_false, Bool.not_not, Bool.and_true, Bool.true_and, Bool.and_false, Bool.false_and, Bool.or_true, Bool.true_or, Bool.or_false, Bool.false_or, and_true, true_and, and_false, false_and, and_self, decide_true, decide_false, decide_eq_true_eq, Bool.not_eq_true', Bool.not_eq_eq_eq_not, Nat.zero_add, Nat.add_zero, Nat.reduceAdd, Nat.reduceSub, Nat.reduceLT, Nat.reduceLeDiff, Nat.reduceEqDiff, Nat.reduceBEq, Int.reduceLT, Int.reduceLE, Int.reduceEq, beq_self_eq_true, ne_eq, not_true_eq_false, not_false_eq_true, eq_self, Nat.zero_le, le_size, lt_size, fr_d__law_draw, ar_d__law_draw, io_d__law_draw, fr_d__law_kinds, ar_d__law_kinds, io_d__law_kinds, fr_d__law_of, ar_d__law_of, io_d__law_of, fr_d__law_unlike, ar_d__law_unlike, io_d__law_unlike, fr_d__law_history, ar_d__law_history, io_d__law_history, fr_d__law_atom_holds, ar_d__law_atom_holds, io_d__law_atom_holds, fr_d__law_is, ar_d__law_is, io_d__law_is, fr_d__law_some, ar_d__law_some, io_d__law_some, fr_d__law_atom, ar_d__law_atom, io_d__law_atom, fr_d__law_atoms, ar_d__law_atoms, io_d__law_atoms, fr_d__law_rule, ar_d__law_rule, io_d__law_rule, fr_d_is_ascending, ar_d_is_ascending, io_d_is_ascending, fr_d_is_one_of, ar_d_is_one_of, io_d_is_one_of, fr_d_is_day, ar_d_is_day, io_d_is_day, fr_d_wrong_at, ar_d_wrong_at, io_d_wrong_at, fr_d_wrong_day, ar_d_wrong_day, io_d_wrong_day, fr_d_check_history, ar_d_check_history, io_d_check_history, fr_d_trees_in, ar_d_trees_in, io_d_trees_in, fr_d_atoms_of, ar_d_atoms_of, io_d_atoms_of, fr_d_last_of, ar_d_last_of, io_d_last_of, fr_d_are_kinds, ar_d_are_kinds, io_d_are_kinds, fr_d_is_whole, ar_d_is_whole, io_d_is_whole, fr_d_is_number, ar_d_is_number, io_d_is_number, fr_d_is_atom, ar_d_is_atom, io_d_is_atom, fr_d_is_tuple_of, ar_d_is_tuple_of, io_d_is_tuple_of, fr_d_is_rule, ar_d_is_rule, io_d_is_rule, fr_d_check_rule, ar_d_check_rule, io_d_check_rule, fr_d_has_some, ar_d_has_some, io_d_has_some, fr_d_is_last, ar_d_is_last, io_d_is_last, fr_d_atom_holds, ar_d_atom_holds, io_d_atom_holds, fr_d_holds_for, ar_d_holds_for, io_d_holds_for, fr_d_holds, ar_d_holds, io_d_holds, fr_d__law_right, ar_d__law_right, io_d__law_right, fr_d__law_well, ar_d__law_well, io_d__law_well, fr_d_law, ar_d_law, io_d_law, fr_m__law_holds, ar_m__law_holds, io_m__law_holds, fs__law_holds, fa__law_holds, fd__law_holds, fr_m__law_nodes, ar_m__law_nodes, io_m__law_nodes, fs__law_nodes, fa__law_nodes, fd__law_nodes, fr_m__law_tree, ar_m__law_tree, io_m__law_tree, fs__law_tree, fa__law_tree, fd__law_tree, fr_m_all_atoms, ar_m_all_atoms, io_m_all_atoms, fs_all_atoms, fa_all_atoms, fd_all_atoms, fr_m_nodes_in, ar_m_nodes_in, io_m_nodes_in, fs_nodes_in, fa_nodes_in, fd_nodes_in, fr_m_holds_by, ar_m_holds_by, io_m_holds_by, fs_holds_by, fa_holds_by, fd_holds_by, ar_c_0, e_countD, e_lookD, e_catL, e_listL_lst, e_listL_tup, if_or, if_and, nc_0, nc_1, nc_2, nc_3, nc_4, nc_5, nc_6, nc_7, nc_8, nc_9, nc_10, nc_11, nc_12, or_true, true_or, or_false, false_or, or_self, nw_ever_after, nw_ever_within, nw_ever_times, nw_ever_not, nw_ever_all, nw_ever_any, nw_after_ever, nw_after_within, nw_after_times, nw_after_not, nw_after_all, nw_after_any, nw_within_ever, nw_within_after, nw_within_times, nw_within_not, nw_within_all, nw_within_any, nw_times_ever, nw_times_after, nw_times_within, nw_times_not, nw_times_all, nw_times_any, nw_not_ever, nw_not_after, nw_not_within, nw_not_times, nw_not_all, nw_not_any, nw_all_ever, nw_all_after, nw_all_within, nw_all_times, nw_all_not, nw_all_any, nw_any_ever, nw_any_after, nw_any_within, nw_any_times, nw_any_not, nw_any_all, subD_int, subD_var, ixN_0, ixN_1, ixN_2, at0, at1, at2, at3, $[$ts:term],*])
theorem shown_two (a b : Bool) : ∃ s, shownD (.lst [.bl a, .bl b]) = some s := by
  cases a <;> cases b <;> exact ⟨_, rfl⟩
theorem is_den2 (a : Bool) : d__law_is.den [.lst [.bl a, .bl a], .lst [.bl a, .bl a]] = .ok (.bl true) [] := by
  obtain ⟨s, hs⟩ := shown_two a a
  apply FO.eq_of
  show FO.Post _ _ _
  rw [fz_den]
  wp_walk using d__law_is, hs
theorem well_ok {ns : List Int} {k : Nat} (hz : ns.length ≤ 63) (hk : k ≤ 3) : (d__law_well.den [.scr ns, .int (k : Int)]).Ok fun r os => ∃ a b c, r = W3 a b c ∧ os = [] := by
  have hs := size_is
  have m1 : CMulB 5231 (k : Int) = true := cmul_a (by decide) (by decide)
  have m2 : ∀ m : Int, CMulB m 47521 = true := fun m => cmul_b (by decide) (by decide)
  have m3 : ∀ m : Int, CMulB m 61 = true := fun m => cmul_b (by decide) (by decide)
  have m4 : ∀ m : Int, CMulB m 16007 = true := fun m => cmul_b (by decide) (by decide)
  have hc := cutL_len ns none (some 9)
  have h9 : (cutL ns none (some 9)).length ≤ 16777216 := by omega
  show FO.Post _ _ _
  rw [fz_den]
  wp_walk using d__law_well, m1, h9
  refine sz_forGo (z := .mk) (fun r ρ => ∃ (is : List Int) (m : Int) (s : Sl), r = is.map .int ∧ NO s ∧ ρ = [.v (.scr ns), .v (.int k), .v (.int m), s, .n]) ⟨_, _, .n, rfl, rfl, rfl⟩ ?_ ?_
  · rintro d r ρ ⟨is, m, s, e1, n1, rfl⟩
    cases is with
    | nil => cases e1
    | cons i is =>
      cases e1
      wp_walk using n1, m2
      exact ⟨is, _, .v (.int i), rfl, rfl, rfl⟩
  · rintro ρ ⟨is, m, s, e1, n1, rfl⟩
    have pw : opPow (.int 10) (.int 15) = some (.int 1000000000000000) := rfl
    by_cases h1 : k < ns.length
    · have h2 : (k : Int) < (ns.length : Int) := by omega
      wp_walk using n1, h2, atI_nat h1, m3, m4, pw
      repeat' (first | split | exact ⟨_, _, _, rfl⟩ | exact ⟨_, _, _, rfl, rfl⟩ | wp_walk)
    · have h2 : ¬ (k : Int) < (ns.length : Int) := by omega
      wp_walk using n1, h2, m3, m4, pw
      repeat' (first | split | exact ⟨_, _, _, rfl⟩ | exact ⟨_, _, _, rfl, rfl⟩ | wp_walk)
theorem r8 : rngD [.int 8] = some (upFrom 0 1 8) := rng_nat (n := 8) (by decide)
theorem r3 : rngD [.int 3] = some (upFrom 0 1 3) := rng_nat (n := 3) (by decide)
theorem tree_dOk {l : Nat} : ∀ {v : D}, treeB l v = true → dOk (2 * l + 2) v = true := by
  induction l with
  | zero => exact fun h => by rw [treeB_0] at h; cases h
  | succ l ih =>
    intro v h
    have two : ∀ {w : Str} {x : D}, dOk (2 * l + 3) x = true → dOk (2 * l + 4) (.tup [.str w, x]) = true := fun {w x} hx => tup_dOk (by simp) fun y hy => by
      simp only [List.mem_cons, List.not_mem_nil, or_false] at hy
      rcases hy with rfl | rfl
      · exact dOk_flat rfl _
      · exact hx
    cases treeP_of h with
    | not g => exact two (dOk_mono (by omega) (ih g))
    | all h1 h2 h3 => exact two (tup_dOk (by omega) fun y hy => ih (h3 y hy))
    | any h1 h2 h3 => exact two (tup_dOk (by omega) fun y hy => ih (h3 y hy))
    | atom w1 w2 w3 g => exact dOk_mono (by omega) (atomP_dOk (atomP_of g))
theorem atoms_ne {l : Nat} : ∀ {v : D}, treeB l v = true → atomsL l v ≠ [] := by
  induction l with
  | zero => exact fun h => by rw [treeB_0] at h; cases h
  | succ l ih =>
    intro v h
    have key : ∀ {ts : List D}, 1 ≤ ts.length → (∀ x ∈ ts, treeB l x = true) → ts.flatMap (atomsL l) ≠ [] := fun {ts} h1 h3 z => by
      cases ts with
      | nil => simp at h1
      | cons t ts =>
        rw [List.flatMap_cons, List.append_eq_nil_iff] at z
        exact ih (h3 t List.mem_cons_self) z.1
    cases treeP_of h with
    | not g => rw [atomsL_s, if_pos rfl]; exact ih g
    | all h1 h2 h3 =>
      rw [atomsL_s]
      simp only [nw_all_not, if_false, if_true, true_or]
      exact key h1 h3
    | any h1 h2 h3 =>
      rw [atomsL_s]
      simp only [nw_any_not, if_false, if_true, or_true]
      exact key h1 h3
    | atom w1 w2 w3 g =>
      rw [atomsL_s, if_neg w1, if_neg (by rintro (z | z); exact w2 z; exact w3 z)]
      exact List.cons_ne_nil _ _
theorem once_all {v : D} (h : treeB 4 v = true) {x : D} (hx : x ∈ atomsL 4 v) : x ∈ onceL v := dd_all (fun _ z => nomatch z) (atomsP h) hx
theorem onceB {v : D} (h : treeB 4 v = true) {x : D} (hx : x ∈ onceL v) : atomB x = true := by
  rcases dd_mem hx with z | z
  · cases z
  · exact atoms_B h x z
/-- holds_for -/
theorem holds_for_den {h : List (List Str)} {v : D} (hd : ∀ l ∈ h, l.Sublist k6) (hl : h.length ≤ 1000) (hv : treeB 4 v = true) : d_holds_for.den [v, histD h] = .ok (.bl (satT h 4 v)) [] := by
  have hs := size_is
  have hlen := once_len hv
  apply FO.eq_of
  show FO.Post _ _ _
  rw [fz_den]
  wp_walk using d_holds_for
  refine pz_dc1 (ρ1 := [.v v, .v (histD h), .n]) (ds := onceL v) (fun d => .bl (satA h d)) ?_ rfl (fun x hx => ?_) (fun x hx => ?_) (fun x hx => ?_) ?_ ?_ (fun x hx => atom_key (onceP hv x hx)) (by omega) ?_
  · refine eq_of_post (?_ : Out.Pz _ _ _ .mk)
    wp_walk using atoms_of_den hv
  · wp_walk
  · wp_walk
  · wp_walk using atom_holds_den (onceP hv x hx) (onceB hv hx) hd hl
  · intro z
    obtain ⟨x, hx⟩ := List.exists_mem_of_ne_nil _ (atoms_ne hv)
    have := once_all hv hx
    rw [z] at this
    cases this
  · refine List.Pairwise.imp_of_mem (fun {a b} ha hb hab e => ?_) (dd_nodup (atomsP hv) List.nodup_nil : (onceL v).Nodup)
    obtain ⟨k, hk⟩ := Option.isSome_iff_exists.mp (atom_key (onceP hv a ha))
    exact hab (key_inj (keyT_of hk).1 (keyT_of (e ▸ hk)).1)
  · wp_walk using holds_by_den (h := h) (es := (onceL v).map fun d => (d, .bl (satA h d))) 16 (l := 4) (by decide) hv (fun x hx => look_map (g := fun d => .bl (satA h d)) (atom_key (atomsP hv x hx)) (once_all hv hx))
theorem check_rule_den {v : D} (h : ruleB v = true) : d_check_rule.den [v] = .ok .non [] := by
  have ht : treeB 4 v = true := by
    unfold ruleB at h
    simp only [Bool.and_eq_true] at h
    exact h.1.1
  apply FO.eq_of
  show FO.Post _ _ _
  rw [fz_den]
  wp_walk using d_check_rule, is_rule_den (vOk_d (tree_dOk ht)), h
theorem hist_B {h : List (List Str)} (hd : ∀ l ∈ h, l.Sublist k6) : isHistB (histD h) = true := by
  show (h.map dayD).all isDayB = true
  rw [List.all_map, List.all_eq_true]
  intro l hl
  show isDayB (.tup (l.map .str)) = true
  rw [isDay_strs, decide_eq_true_eq]
  exact sub_filter (hd l hl) (by decide)
theorem hist_vOk {h : List (List Str)} (hd : ∀ l ∈ h, l.Sublist k6) (hl : h.length ≤ 50) : vOk 2 (histD h) = true := vOk_d (tup_dOk (by rw [List.length_map]; omega) fun x hx => by
  obtain ⟨l, h1, rfl⟩ := List.mem_map.mp hx
  exact strs_dOk (hd l h1) 0)
theorem check_history_den {h : List (List Str)} (hd : ∀ l ∈ h, l.Sublist k6) (hl : h.length ≤ 50) : d_check_history.den [histD h] = .ok .non [] := by
  apply FO.eq_of
  show FO.Post _ _ _
  rw [fz_den]
  wp_walk using d_check_history
  refine fz_mono (wrong_day_ok (hist_vOk hd hl)) ?_
  rintro r os ⟨rfl, ds, rfl, hiff, _⟩
  have e : ds = [] := hiff.mpr (hist_B hd)
  subst e
  wp_walk
  rw [sz_for_nil]
  wp_walk
/-- holds -/
theorem holds_den {h : List (List Str)} {v : D} (hd : ∀ l ∈ h, l.Sublist k6) (hl : h.length ≤ 50) (hv : ruleB v = true) : d_holds.den [v, histD h] = .ok (.bl (satT h 4 v)) [] := by
  have ht : treeB 4 v = true := by
    unfold ruleB at hv
    simp only [Bool.and_eq_true] at hv
    exact hv.1.1
  apply FO.eq_of
  show FO.Post _ _ _
  rw [fz_den]
  wp_walk using d_holds, check_rule_den hv, check_history_den hd hl, holds_for_den hd (by omega) ht
theorem is_den1 (a : Bool) : d__law_is.den [.bl a, .bl a] = .ok (.bl true) [] := by
  obtain ⟨s, hs⟩ := shown_bl a
  apply FO.eq_of
  show FO.Post _ _ _
  rw [fz_den]
  wp_walk using d__law_is, hs
theorem is_two (a b : Bool) : d__law_is.den [.lst [.bl a, .bl b], .lst [.bl a, .bl b]] = .ok (.bl true) [] := by
  obtain ⟨s, hs⟩ := shown_two a b
  apply FO.eq_of
  show FO.Post _ _ _
  rw [fz_den]
  wp_walk using d__law_is, hs
theorem shown_kT : ∃ s, shownD kT = some s := by
  have h : showOk kT = true := by first | decide +kernel | kernel_rfl | (simp [showOk, kT, k6, D.data, Ds.data])
  unfold shownD
  rw [if_pos h]
  exact ⟨_, rfl⟩
theorem is_kinds : d__law_is.den [g_KINDS, kT] = .ok (.bl true) [] := by
  obtain ⟨s, hs⟩ := shown_kT
  have e : g_KINDS = kT := rfl
  rw [e]
  apply FO.eq_of
  show FO.Post _ _ _
  rw [fz_den]
  wp_walk using d__law_is, hs
theorem cut_sub {h : List (List Str)} (hd : ∀ l ∈ h, l.Sublist k6) (i : Int) : ∀ l ∈ cutL h none (some i), l.Sublist k6 := fun l hl => hd l (cutL_mem hl)
theorem right_ok {a b c : Int} : (d__law_right.den [W3 a b c]).Ok fun r os => r = .bl true := by
  show FO.Post _ _ _
  rw [fz_den]
  have hh := fun a b c => history_ok (a := a) (b := b) (c := c) (m := 14) (by decide)
  have n14 : ((14 : Nat) : Int) = 14 := rfl
  simp only [n14] at hh
  wp_walk using d__law_right, r8, kinds_den, is_kinds
  refine sz_forGo (z := .mk) (fun r ρ => ∃ (a b c : Int) (s1 s2 s3 s4 s5 s6 s7 : Sl), NO s1 ∧ NO s2 ∧ NO s3 ∧ NO s4 ∧ NO s5 ∧ NO s6 ∧ NO s7 ∧ ρ = [.o (W3 a b c), s1, s2, s3, s4, s5, s6, s7]) ⟨a, b, c, .n, .n, .n, .n, .n, .n, .n, rfl, rfl, rfl, rfl, rfl, rfl, rfl, rfl⟩ ?_ ?_
  · rintro d r ρ ⟨a, b, c, s1, s2, s3, s4, s5, s6, s7, n1, n2, n3, n4, n5, n6, n7, rfl⟩
    wp_walk using n1, n2, n3, n4, n5, n6, n7
    refine fz_mono rule_ok ?_
    rintro u _ ⟨a1, b1, c1, hu, rfl⟩
    have ht : treeB 4 u = true := by
      have := hu
      unfold ruleB at this
      simp only [Bool.and_eq_true] at this
      exact this.1.1
    wp_walk using n1, n2, n3, n4, n5, n6, n7, r3
    refine sz_forGo (z := .mk) (fun r ρ => ∃ (a b c : Int) (s1 s3 s4 s5 s6 s7 : Sl), NO s1 ∧ NO s3 ∧ NO s4 ∧ NO s5 ∧ NO s6 ∧ NO s7 ∧ ρ = [.o (W3 a b c), s1, .v u, s3, s4, s5, s6, s7]) ⟨a1, b1, c1, .v d, s3, s4, s5, s6, s7, rfl, n3, n4, n5, n6, n7, rfl⟩ ?_ ?_
    · rintro d r ρ ⟨a, b, c, s1, s3, s4, s5, s6, s7, n1, n3, n4, n5, n6, n7, rfl⟩
      wp_walk using n1, n3, n4, n5, n6, n7
      refine fz_mono (hh _ _ _) ?_
      rintro _ _ ⟨h, a2, b2, c2, rfl, rfl, hl, hd⟩
      have eH : (D.tup (h.map fun l => .tup (l.map .str))) = .tup (h.map dayD) := rfl
      have rr : rngD [.int ((h.length : Int) + 1)] = some (upFrom 0 1 (h.length + 1)) := rng_nat (n := h.length + 1) (by omega)
      rw [eH]
      wp_walk using n1, n3, n4, n5, n6, n7, rr
      refine sz_forGo (z := .mk) (fun r ρ => ∃ (s5 s6 : Sl), (∀ x ∈ r, ∃ i : Int, x = .int i) ∧ NO s5 ∧ NO s6 ∧ ρ = [.o (W3 a2 b2 c2), s1, .v u, .v d, .v (.tup (h.map dayD)), s5, s6, s7]) ⟨s5, s6, fun x hx => by obtain ⟨k, _, rfl⟩ := List.mem_map.mp hx; exact ⟨_, rfl⟩, n5, n6, rfl⟩ ?_ ?_
      · rintro x r ρ ⟨s5, s6, hr, n5, n6, rfl⟩
        obtain ⟨i, rfl⟩ := hr x List.mem_cons_self
        have hcl := cutL_len h none (some i)
        have f1 := holds_den (cut_sub hd i) (by omega) hu
        have f2 := law_holds_den (cut_sub hd i) (by omega) 16 (l := 4) (by decide) ht
        unfold histD at f1 f2
        wp_walk using n5, n6, cutL_map, f1, f2, is_den1
        exact ⟨.v (.int i), _, fun y hy => hr y (List.mem_cons_of_mem _ hy), rfl, rfl, rfl⟩
      · rintro ρ ⟨s5, s6, hr, n5, n6, rfl⟩
        have f1 := holds_den hd (by omega) hu
        have f2 := law_holds_den hd (by omega) 16 (l := 4) (by decide) ht
        have f3 := holds_den (h := []) (fun _ z => nomatch z) (by decide) hu
        have f4 := law_holds_den (h := []) (fun _ z => nomatch z) (by decide) 16 (l := 4) (by decide) ht
        unfold histD at f1 f2 f3 f4
        simp only [List.map_nil] at f3 f4
        wp_walk using n5, n6, n7, f1, f2, f3, f4, is_two
        exact ⟨_, _, _, _, _, _, _, _, _, n1, rfl, rfl, n5, n6, rfl, rfl⟩
    · rintro ρ ⟨a, b, c, s1, s3, s4, s5, s6, s7, n1, n3, n4, n5, n6, n7, rfl⟩
      wp_walk
      exact ⟨_, _, _, _, _, _, _, _, _, _, n1, rfl, n3, n4, n5, n6, n7, rfl⟩
  · rintro ρ ⟨a, b, c, s1, s2, s3, s4, s5, s6, s7, n1, n2, n3, n4, n5, n6, n7, rfl⟩
    wp_walk
theorem law_true : ∀ ns : List Int, ns.length ≤ 63 → d_law.den [.scr ns] = .ok (.bl true) [] := by
  intro ns hz
  have hs := size_is
  apply FO.eq_of
  show FO.Post _ _ _
  rw [fz_den]
  wp_walk using d_law
  have s1 : ∃ n : Nat, n ≤ 3 ∧ (Sr.range1 (.cons (.bfn fMax (.cons (.int 1) (.cons (.bfn fMin (.cons (.bfn fLen (.cons (.var 0) .nil)) (.cons (.int 3) .nil))) .nil))) .nil)).den [.v (.scr ns), .n] = .ok (upFrom 0 1 n) [.v (.scr ns), .n] := by
    have rr : ∀ n : Nat, n ≤ 3 → rngD [.int (n : Int)] = some (upFrom 0 1 n) := fun n hn => rng_nat (by omega)
    refine ⟨if 3 < ns.length then 3 else if 1 < ns.length then ns.length else 1, by split <;> (try split) <;> omega, ?_⟩
    refine eq_of_post (?_ : Out.Pz _ _ _ .mk)
    wp_walk
    have ee : (if (if (3 : Int) < (ns.length : Int) then (3 : Int) else (ns.length : Int)) > 1 then (if (3 : Int) < (ns.length : Int) then (3 : Int) else (ns.length : Int)) else 1) = ((if 3 < ns.length then 3 else if 1 < ns.length then ns.length else 1 : Nat) : Int) := by
      repeat' split
      all_goals omega
    rw [ee, rr _ (by split <;> (try split) <;> omega)]
    exact ⟨rfl, rfl⟩
  obtain ⟨n, hn, s1⟩ := s1
  refine pz_lcP (fun _ => true) (fun d => .bl true) (fun d => [.v (.scr ns), .v d]) s1 rfl (by rw [size_is, upFrom_length]; omega) (fun d _ => rfl) (fun d _ => rfl) (fun d _ => rfl) rfl (fun d hd => ?_) (fun d hd _ => ?_) ?_
  · wp_walk
  · obtain ⟨k, hk, rfl⟩ := List.mem_map.mp hd
    have hk : k < n := by simpa using hk
    have e : ((0 : Int) + (k : Nat) * 1) = (k : Nat) := by omega
    wp_walk using e
    refine fz_mono (well_ok hz (by omega)) ?_
    rintro _ os ⟨a, b, c, rfl, rfl⟩
    wp_walk using W3
    show FO.Pz (d__law_right.den [W3 a b c]) _ _ _
    refine fz_mono right_ok ?_
    rintro r os rfl
    wp_walk
    try rw [e]
  · wp_walk using filt_true, bls_map, all_map_id
    simp
end K02
set_option Elab.async false
set_option maxRecDepth 100000
set_option maxHeartbeats 4000000
namespace K02
open PySem PySem.Spec PyProof.Rows L2 Ev

theorem all_mk {w : World} {K : PySem.W.Frag} {h : Heap} {mg : Str → Option Value} {fa : Addr} {q : Program} (X : K.In h) (G0 : h.Ns mainGlobals mg) (hfa : mg "law" = some (.ref fa)) (te : TabsE q K mg h)
    {f__law_draw : Addr} {od__law_draw an__law_draw : Option Addr} {sl__law_draw : Array (Option Value)} {oc__law_draw kV__law_draw dc__law_draw pm__law_draw cd__law_draw ct__law_draw : Value}
    (a__law_draw : PySem.W.nsIn K mainGlobals "_law_draw" = some (some (.ref f__law_draw))) (l__law_draw : K.lookup f__law_draw = some ⟨oc__law_draw, od__law_draw, .func (PySem.W.fnOf "_law_draw" "_law_draw" (defArgs (topS 40)) (defBody (topS 40)) (defScope (topS 40)) .none kV__law_draw dc__law_draw pm__law_draw an__law_draw cd__law_draw ct__law_draw), sl__law_draw⟩) (c__law_draw_ : PySem.W.codeIn K cd__law_draw "_law_draw" = true) (q__law_draw : PySem.W.keepIn K (.ref f__law_draw) = true)
    {f__law_kinds : Addr} {od__law_kinds an__law_kinds : Option Addr} {sl__law_kinds : Array (Option Value)} {oc__law_kinds kV__law_kinds dc__law_kinds pm__law_kinds cd__law_kinds ct__law_kinds : Value}
    (a__law_kinds : PySem.W.nsIn K mainGlobals "_law_kinds" = some (some (.ref f__law_kinds))) (l__law_kinds : K.lookup f__law_kinds = some ⟨oc__law_kinds, od__law_kinds, .func (PySem.W.fnOf "_law_kinds" "_law_kinds" (defArgs (topS 44)) (defBody (topS 44)) (defScope (topS 44)) .none kV__law_kinds dc__law_kinds pm__law_kinds an__law_kinds cd__law_kinds ct__law_kinds), sl__law_kinds⟩) (c__law_kinds_ : PySem.W.codeIn K cd__law_kinds "_law_kinds" = true) (q__law_kinds : PySem.W.keepIn K (.ref f__law_kinds) = true)
    {f__law_of : Addr} {od__law_of an__law_of : Option Addr} {sl__law_of : Array (Option Value)} {oc__law_of kV__law_of dc__law_of pm__law_of cd__law_of ct__law_of : Value}
    (a__law_of : PySem.W.nsIn K mainGlobals "_law_of" = some (some (.ref f__law_of))) (l__law_of : K.lookup f__law_of = some ⟨oc__law_of, od__law_of, .func (PySem.W.fnOf "_law_of" "_law_of" (defArgs (topS 41)) (defBody (topS 41)) (defScope (topS 41)) .none kV__law_of dc__law_of pm__law_of an__law_of cd__law_of ct__law_of), sl__law_of⟩) (c__law_of_ : PySem.W.codeIn K cd__law_of "_law_of" = true) (q__law_of : PySem.W.keepIn K (.ref f__law_of) = true)
    {f__law_unlike : Addr} {od__law_unlike an__law_unlike : Option Addr} {sl__law_unlike : Array (Option Value)} {oc__law_unlike kV__law_unlike dc__law_unlike pm__law_unlike cd__law_unlike ct__law_unlike : Value}
    (a__law_unlike : PySem.W.nsIn K mainGlobals "_law_unlike" = some (some (.ref f__law_unlike))) (l__law_unlike : K.lookup f__law_unlike = some ⟨oc__law_unlike, od__law_unlike, .func (PySem.W.fnOf "_law_unlike" "_law_unlike" (defArgs (topS 42)) (defBody (topS 42)) (defScope (topS 42)) .none kV__law_unlike dc__law_unlike pm__law_unlike an__law_unlike cd__law_unlike ct__law_unlike), sl__law_unlike⟩) (c__law_unlike_ : PySem.W.codeIn K cd__law_unlike "_law_unlike" = true) (q__law_unlike : PySem.W.keepIn K (.ref f__law_unlike) = true)
    {f__law_history : Addr} {od__law_history an__law_history : Option Addr} {sl__law_history : Array (Option Value)} {oc__law_history kV__law_history dc__law_history pm__law_history cd__law_history ct__law_history : Value}
    (a__law_history : PySem.W.nsIn K mainGlobals "_law_history" = some (some (.ref f__law_history))) (l__law_history : K.lookup f__law_history = some ⟨oc__law_history, od__law_history, .func (PySem.W.fnOf "_law_history" "_law_history" (defArgs (topS 46)) (defBody (topS 46)) (defScope (topS 46)) .none kV__law_history dc__law_history pm__law_history an__law_history cd__law_history ct__law_history), sl__law_history⟩) (c__law_history_ : PySem.W.codeIn K cd__law_history "_law_history" = true) (q__law_history : PySem.W.keepIn K (.ref f__law_history) = true)
    {f__law_atom_holds : Addr} {od__law_atom_holds an__law_atom_holds : Option Addr} {sl__law_atom_holds : Array (Option Value)} {oc__law_atom_holds kV__law_atom_holds dc__law_atom_holds pm__law_atom_holds cd__law_atom_holds ct__law_atom_holds : Value}
    (a__law_atom_holds : PySem.W.nsIn K mainGlobals "_law_atom_holds" = some (some (.ref f__law_atom_holds))) (l__law_atom_holds : K.lookup f__law_atom_holds = some ⟨oc__law_atom_holds, od__law_atom_holds, .func (PySem.W.fnOf "_law_atom_holds" "_law_atom_holds" (defArgs (topS 52)) (defBody (topS 52)) (defScope (topS 52)) .none kV__law_atom_holds dc__law_atom_holds pm__law_atom_holds an__law_atom_holds cd__law_atom_holds ct__law_atom_holds), sl__law_atom_holds⟩) (c__law_atom_holds_ : PySem.W.codeIn K cd__law_atom_holds "_law_atom_holds" = true) (q__law_atom_holds : PySem.W.keepIn K (.ref f__law_atom_holds) = true)
    {f__law_holds : Addr} {od__law_holds an__law_holds : Option Addr} {sl__law_holds : Array (Option Value)} {oc__law_holds kV__law_holds dc__law_holds pm__law_holds cd__law_holds ct__law_holds : Value}
    (a__law_holds : PySem.W.nsIn K mainGlobals "_law_holds" = some (some (.ref f__law_holds))) (l__law_holds : K.lookup f__law_holds = some ⟨oc__law_holds, od__law_holds, .func (PySem.W.fnOf "_law_holds" "_law_holds" (defArgs (topS 53)) (defBody (topS 53)) (defScope (topS 53)) .none kV__law_holds dc__law_holds pm__law_holds an__law_holds cd__law_holds ct__law_holds), sl__law_holds⟩) (c__law_holds_ : PySem.W.codeIn K cd__law_holds "_law_holds" = true) (q__law_holds : PySem.W.keepIn K (.ref f__law_holds) = true)
    {f__law_is : Addr} {od__law_is an__law_is : Option Addr} {sl__law_is : Array (Option Value)} {oc__law_is kV__law_is dc__law_is pm__law_is cd__law_is ct__law_is : Value}
    (a__law_is : PySem.W.nsIn K mainGlobals "_law_is" = some (some (.ref f__law_is))) (l__law_is : K.lookup f__law_is = some ⟨oc__law_is, od__law_is, .func (PySem.W.fnOf "_law_is" "_law_is" (defArgs (topS 43)) (defBody (topS 43)) (defScope (topS 43)) .none kV__law_is dc__law_is pm__law_is an__law_is cd__law_is ct__law_is), sl__law_is⟩) (c__law_is_ : PySem.W.codeIn K cd__law_is "_law_is" = true) (q__law_is : PySem.W.keepIn K (.ref f__law_is) = true)
    {f__law_some : Addr} {od__law_some an__law_some : Option Addr} {sl__law_some : Array (Option Value)} {oc__law_some kV__law_some dc__law_some pm__law_some cd__law_some ct__law_some : Value}
    (a__law_some : PySem.W.nsIn K mainGlobals "_law_some" = some (some (.ref f__law_some))) (l__law_some : K.lookup f__law_some = some ⟨oc__law_some, od__law_some, .func (PySem.W.fnOf "_law_some" "_law_some" (defArgs (topS 45)) (defBody (topS 45)) (defScope (topS 45)) .none kV__law_some dc__law_some pm__law_some an__law_some cd__law_some ct__law_some), sl__law_some⟩) (c__law_some_ : PySem.W.codeIn K cd__law_some "_law_some" = true) (q__law_some : PySem.W.keepIn K (.ref f__law_some) = true)
    {f__law_atom : Addr} {od__law_atom an__law_atom : Option Addr} {sl__law_atom : Array (Option Value)} {oc__law_atom kV__law_atom dc__law_atom pm__law_atom cd__law_atom ct__law_atom : Value}
    (a__law_atom : PySem.W.nsIn K mainGlobals "_law_atom" = some (some (.ref f__law_atom))) (l__law_atom : K.lookup f__law_atom = some ⟨oc__law_atom, od__law_atom, .func (PySem.W.fnOf "_law_atom" "_law_atom" (defArgs (topS 47)) (defBody (topS 47)) (defScope (topS 47)) .none kV__law_atom dc__law_atom pm__law_atom an__law_atom cd__law_atom ct__law_atom), sl__law_atom⟩) (c__law_atom_ : PySem.W.codeIn K cd__law_atom "_law_atom" = true) (q__law_atom : PySem.W.keepIn K (.ref f__law_atom) = true)
    {f__law_atoms : Addr} {od__law_atoms an__law_atoms : Option Addr} {sl__law_atoms : Array (Option Value)} {oc__law_atoms kV__law_atoms dc__law_atoms pm__law_atoms cd__law_atoms ct__law_atoms : Value}
    (a__law_atoms : PySem.W.nsIn K mainGlobals "_law_atoms" = some (some (.ref f__law_atoms))) (l__law_atoms : K.lookup f__law_atoms = some ⟨oc__law_atoms, od__law_atoms, .func (PySem.W.fnOf "_law_atoms" "_law_atoms" (defArgs (topS 48)) (defBody (topS 48)) (defScope (topS 48)) .none kV__law_atoms dc__law_atoms pm__law_atoms an__law_atoms cd__law_atoms ct__law_atoms), sl__law_atoms⟩) (c__law_atoms_ : PySem.W.codeIn K cd__law_atoms "_law_atoms" = true) (q__law_atoms : PySem.W.keepIn K (.ref f__law_atoms) = true)
    {f__law_nodes : Addr} {od__law_nodes an__law_nodes : Option Addr} {sl__law_nodes : Array (Option Value)} {oc__law_nodes kV__law_nodes dc__law_nodes pm__law_nodes cd__law_nodes ct__law_nodes : Value}
    (a__law_nodes : PySem.W.nsIn K mainGlobals "_law_nodes" = some (some (.ref f__law_nodes))) (l__law_nodes : K.lookup f__law_nodes = some ⟨oc__law_nodes, od__law_nodes, .func (PySem.W.fnOf "_law_nodes" "_law_nodes" (defArgs (topS 49)) (defBody (topS 49)) (defScope (topS 49)) .none kV__law_nodes dc__law_nodes pm__law_nodes an__law_nodes cd__law_nodes ct__law_nodes), sl__law_nodes⟩) (c__law_nodes_ : PySem.W.codeIn K cd__law_nodes "_law_nodes" = true) (q__law_nodes : PySem.W.keepIn K (.ref f__law_nodes) = true)
    {f__law_tree : Addr} {od__law_tree an__law_tree : Option Addr} {sl__law_tree : Array (Option Value)} {oc__law_tree kV__law_tree dc__law_tree pm__law_tree cd__law_tree ct__law_tree : Value}
    (a__law_tree : PySem.W.nsIn K mainGlobals "_law_tree" = some (some (.ref f__law_tree))) (l__law_tree : K.lookup f__law_tree = some ⟨oc__law_tree, od__law_tree, .func (PySem.W.fnOf "_law_tree" "_law_tree" (defArgs (topS 50)) (defBody (topS 50)) (defScope (topS 50)) .none kV__law_tree dc__law_tree pm__law_tree an__law_tree cd__law_tree ct__law_tree), sl__law_tree⟩) (c__law_tree_ : PySem.W.codeIn K cd__law_tree "_law_tree" = true) (q__law_tree : PySem.W.keepIn K (.ref f__law_tree) = true)
    {f__law_rule : Addr} {od__law_rule an__law_rule : Option Addr} {sl__law_rule : Array (Option Value)} {oc__law_rule kV__law_rule dc__law_rule pm__law_rule cd__law_rule ct__law_rule : Value}
    (a__law_rule : PySem.W.nsIn K mainGlobals "_law_rule" = some (some (.ref f__law_rule))) (l__law_rule : K.lookup f__law_rule = some ⟨oc__law_rule, od__law_rule, .func (PySem.W.fnOf "_law_rule" "_law_rule" (defArgs (topS 51)) (defBody (topS 51)) (defScope (topS 51)) .none kV__law_rule dc__law_rule pm__law_rule an__law_rule cd__law_rule ct__law_rule), sl__law_rule⟩) (c__law_rule_ : PySem.W.codeIn K cd__law_rule "_law_rule" = true) (q__law_rule : PySem.W.keepIn K (.ref f__law_rule) = true)
    {f_is_ascending : Addr} {od_is_ascending an_is_ascending : Option Addr} {sl_is_ascending : Array (Option Value)} {oc_is_ascending kV_is_ascending dc_is_ascending pm_is_ascending cd_is_ascending ct_is_ascending : Value}
    (a_is_ascending : PySem.W.nsIn K mainGlobals "is_ascending" = some (some (.ref f_is_ascending))) (l_is_ascending : K.lookup f_is_ascending = some ⟨oc_is_ascending, od_is_ascending, .func (PySem.W.fnOf "is_ascending" "is_ascending" (defArgs (topS 17)) (defBody (topS 17)) (defScope (topS 17)) .none kV_is_ascending dc_is_ascending pm_is_ascending an_is_ascending cd_is_ascending ct_is_ascending), sl_is_ascending⟩) (c_is_ascending_ : PySem.W.codeIn K cd_is_ascending "is_ascending" = true) (q_is_ascending : PySem.W.keepIn K (.ref f_is_ascending) = true)
    {f_is_one_of : Addr} {od_is_one_of an_is_one_of : Option Addr} {sl_is_one_of : Array (Option Value)} {oc_is_one_of kV_is_one_of dc_is_one_of pm_is_one_of cd_is_one_of ct_is_one_of : Value}
    (a_is_one_of : PySem.W.nsIn K mainGlobals "is_one_of" = some (some (.ref f_is_one_of))) (l_is_one_of : K.lookup f_is_one_of = some ⟨oc_is_one_of, od_is_one_of, .func (PySem.W.fnOf "is_one_of" "is_one_of" (defArgs (topS 19)) (defBody (topS 19)) (defScope (topS 19)) .none kV_is_one_of dc_is_one_of pm_is_one_of an_is_one_of cd_is_one_of ct_is_one_of), sl_is_one_of⟩) (c_is_one_of_ : PySem.W.codeIn K cd_is_one_of "is_one_of" = true) (q_is_one_of : PySem.W.keepIn K (.ref f_is_one_of) = true)
    {f_is_day : Addr} {od_is_day an_is_day : Option Addr} {sl_is_day : Array (Option Value)} {oc_is_day kV_is_day dc_is_day pm_is_day cd_is_day ct_is_day : Value}
    (a_is_day : PySem.W.nsIn K mainGlobals "is_day" = some (some (.ref f_is_day))) (l_is_day : K.lookup f_is_day = some ⟨oc_is_day, od_is_day, .func (PySem.W.fnOf "is_day" "is_day" (defArgs (topS 28)) (defBody (topS 28)) (defScope (topS 28)) .none kV_is_day dc_is_day pm_is_day an_is_day cd_is_day ct_is_day), sl_is_day⟩) (c_is_day_ : PySem.W.codeIn K cd_is_day "is_day" = true) (q_is_day : PySem.W.keepIn K (.ref f_is_day) = true)
    {f_wrong_at : Addr} {od_wrong_at an_wrong_at : Option Addr} {sl_wrong_at : Array (Option Value)} {oc_wrong_at kV_wrong_at dc_wrong_at pm_wrong_at cd_wrong_at ct_wrong_at : Value}
    (a_wrong_at : PySem.W.nsIn K mainGlobals "wrong_at" = some (some (.ref f_wrong_at))) (l_wrong_at : K.lookup f_wrong_at = some ⟨oc_wrong_at, od_wrong_at, .func (PySem.W.fnOf "wrong_at" "wrong_at" (defArgs (topS 18)) (defBody (topS 18)) (defScope (topS 18)) .none kV_wrong_at dc_wrong_at pm_wrong_at an_wrong_at cd_wrong_at ct_wrong_at), sl_wrong_at⟩) (c_wrong_at_ : PySem.W.codeIn K cd_wrong_at "wrong_at" = true) (q_wrong_at : PySem.W.keepIn K (.ref f_wrong_at) = true)
    {f_wrong_day : Addr} {od_wrong_day an_wrong_day : Option Addr} {sl_wrong_day : Array (Option Value)} {oc_wrong_day kV_wrong_day dc_wrong_day pm_wrong_day cd_wrong_day ct_wrong_day : Value}
    (a_wrong_day : PySem.W.nsIn K mainGlobals "wrong_day" = some (some (.ref f_wrong_day))) (l_wrong_day : K.lookup f_wrong_day = some ⟨oc_wrong_day, od_wrong_day, .func (PySem.W.fnOf "wrong_day" "wrong_day" (defArgs (topS 30)) (defBody (topS 30)) (defScope (topS 30)) .none kV_wrong_day dc_wrong_day pm_wrong_day an_wrong_day cd_wrong_day ct_wrong_day), sl_wrong_day⟩) (c_wrong_day_ : PySem.W.codeIn K cd_wrong_day "wrong_day" = true) (q_wrong_day : PySem.W.keepIn K (.ref f_wrong_day) = true)
    {f_check_history : Addr} {od_check_history an_check_history : Option Addr} {sl_check_history : Array (Option Value)} {oc_check_history kV_check_history dc_check_history pm_check_history cd_check_history ct_check_history : Value}
    (a_check_history : PySem.W.nsIn K mainGlobals "check_history" = some (some (.ref f_check_history))) (l_check_history : K.lookup f_check_history = some ⟨oc_check_history, od_check_history, .func (PySem.W.fnOf "check_history" "check_history" (defArgs (topS 36)) (defBody (topS 36)) (defScope (topS 36)) .none kV_check_history dc_check_history pm_check_history an_check_history cd_check_history ct_check_history), sl_check_history⟩) (c_check_history_ : PySem.W.codeIn K cd_check_history "check_history" = true) (q_check_history : PySem.W.keepIn K (.ref f_check_history) = true)
    {f_trees_in : Addr} {od_trees_in an_trees_in : Option Addr} {sl_trees_in : Array (Option Value)} {oc_trees_in kV_trees_in dc_trees_in pm_trees_in cd_trees_in ct_trees_in : Value}
    (a_trees_in : PySem.W.nsIn K mainGlobals "trees_in" = some (some (.ref f_trees_in))) (l_trees_in : K.lookup f_trees_in = some ⟨oc_trees_in, od_trees_in, .func (PySem.W.fnOf "trees_in" "trees_in" (defArgs (topS 5)) (defBody (topS 5)) (defScope (topS 5)) .none kV_trees_in dc_trees_in pm_trees_in an_trees_in cd_trees_in ct_trees_in), sl_trees_in⟩) (c_trees_in_ : PySem.W.codeIn K cd_trees_in "trees_in" = true) (q_trees_in : PySem.W.keepIn K (.ref f_trees_in) = true)
    {f_all_atoms : Addr} {od_all_atoms an_all_atoms : Option Addr} {sl_all_atoms : Array (Option Value)} {oc_all_atoms kV_all_atoms dc_all_atoms pm_all_atoms cd_all_atoms ct_all_atoms : Value}
    (a_all_atoms : PySem.W.nsIn K mainGlobals "all_atoms" = some (some (.ref f_all_atoms))) (l_all_atoms : K.lookup f_all_atoms = some ⟨oc_all_atoms, od_all_atoms, .func (PySem.W.fnOf "all_atoms" "all_atoms" (defArgs (topS 6)) (defBody (topS 6)) (defScope (topS 6)) .none kV_all_atoms dc_all_atoms pm_all_atoms an_all_atoms cd_all_atoms ct_all_atoms), sl_all_atoms⟩) (c_all_atoms_ : PySem.W.codeIn K cd_all_atoms "all_atoms" = true) (q_all_atoms : PySem.W.keepIn K (.ref f_all_atoms) = true)
    {f_atoms_of : Addr} {od_atoms_of an_atoms_of : Option Addr} {sl_atoms_of : Array (Option Value)} {oc_atoms_of kV_atoms_of dc_atoms_of pm_atoms_of cd_atoms_of ct_atoms_of : Value}
    (a_atoms_of : PySem.W.nsIn K mainGlobals "atoms_of" = some (some (.ref f_atoms_of))) (l_atoms_of : K.lookup f_atoms_of = some ⟨oc_atoms_of, od_atoms_of, .func (PySem.W.fnOf "atoms_of" "atoms_of" (defArgs (topS 7)) (defBody (topS 7)) (defScope (topS 7)) .none kV_atoms_of dc_atoms_of pm_atoms_of an_atoms_of cd_atoms_of ct_atoms_of), sl_atoms_of⟩) (c_atoms_of_ : PySem.W.codeIn K cd_atoms_of "atoms_of" = true) (q_atoms_of : PySem.W.keepIn K (.ref f_atoms_of) = true)
    {f_last_of : Addr} {od_last_of an_last_of : Option Addr} {sl_last_of : Array (Option Value)} {oc_last_of kV_last_of dc_last_of pm_last_of cd_last_of ct_last_of : Value}
    (a_last_of : PySem.W.nsIn K mainGlobals "last_of" = some (some (.ref f_last_of))) (l_last_of : K.lookup f_last_of = some ⟨oc_last_of, od_last_of, .func (PySem.W.fnOf "last_of" "last_of" (defArgs (topS 33)) (defBody (topS 33)) (defScope (topS 33)) .none kV_last_of dc_last_of pm_last_of an_last_of cd_last_of ct_last_of), sl_last_of⟩) (c_last_of_ : PySem.W.codeIn K cd_last_of "last_of" = true) (q_last_of : PySem.W.keepIn K (.ref f_last_of) = true)
    {f_are_kinds : Addr} {od_are_kinds an_are_kinds : Option Addr} {sl_are_kinds : Array (Option Value)} {oc_are_kinds kV_are_kinds dc_are_kinds pm_are_kinds cd_are_kinds ct_are_kinds : Value}
    (a_are_kinds : PySem.W.nsIn K mainGlobals "are_kinds" = some (some (.ref f_are_kinds))) (l_are_kinds : K.lookup f_are_kinds = some ⟨oc_are_kinds, od_are_kinds, .func (PySem.W.fnOf "are_kinds" "are_kinds" (defArgs (topS 29)) (defBody (topS 29)) (defScope (topS 29)) .none kV_are_kinds dc_are_kinds pm_are_kinds an_are_kinds cd_are_kinds ct_are_kinds), sl_are_kinds⟩) (c_are_kinds_ : PySem.W.codeIn K cd_are_kinds "are_kinds" = true) (q_are_kinds : PySem.W.keepIn K (.ref f_are_kinds) = true)
    {f_is_whole : Addr} {od_is_whole an_is_whole : Option Addr} {sl_is_whole : Array (Option Value)} {oc_is_whole kV_is_whole dc_is_whole pm_is_whole cd_is_whole ct_is_whole : Value}
    (a_is_whole : PySem.W.nsIn K mainGlobals "is_whole" = some (some (.ref f_is_whole))) (l_is_whole : K.lookup f_is_whole = some ⟨oc_is_whole, od_is_whole, .func (PySem.W.fnOf "is_whole" "is_whole" (defArgs (topS 14)) (defBody (topS 14)) (defScope (topS 14)) .none kV_is_whole dc_is_whole pm_is_whole an_is_whole cd_is_whole ct_is_whole), sl_is_whole⟩) (c_is_whole_ : PySem.W.codeIn K cd_is_whole "is_whole" = true) (q_is_whole : PySem.W.keepIn K (.ref f_is_whole) = true)
    {f_is_number : Addr} {od_is_number an_is_number : Option Addr} {sl_is_number : Array (Option Value)} {oc_is_number kV_is_number dc_is_number pm_is_number cd_is_number ct_is_number : Value}
    (a_is_number : PySem.W.nsIn K mainGlobals "is_number" = some (some (.ref f_is_number))) (l_is_number : K.lookup f_is_number = some ⟨oc_is_number, od_is_number, .func (PySem.W.fnOf "is_number" "is_number" (defArgs (topS 15)) (defBody (topS 15)) (defScope (topS 15)) .none kV_is_number dc_is_number pm_is_number an_is_number cd_is_number ct_is_number), sl_is_number⟩) (c_is_number_ : PySem.W.codeIn K cd_is_number "is_number" = true) (q_is_number : PySem.W.keepIn K (.ref f_is_number) = true)
    {f_is_atom : Addr} {od_is_atom an_is_atom : Option Addr} {sl_is_atom : Array (Option Value)} {oc_is_atom kV_is_atom dc_is_atom pm_is_atom cd_is_atom ct_is_atom : Value}
    (a_is_atom : PySem.W.nsIn K mainGlobals "is_atom" = some (some (.ref f_is_atom))) (l_is_atom : K.lookup f_is_atom = some ⟨oc_is_atom, od_is_atom, .func (PySem.W.fnOf "is_atom" "is_atom" (defArgs (topS 31)) (defBody (topS 31)) (defScope (topS 31)) .none kV_is_atom dc_is_atom pm_is_atom an_is_atom cd_is_atom ct_is_atom), sl_is_atom⟩) (c_is_atom_ : PySem.W.codeIn K cd_is_atom "is_atom" = true) (q_is_atom : PySem.W.keepIn K (.ref f_is_atom) = true)
    {f_is_tuple_of : Addr} {od_is_tuple_of an_is_tuple_of : Option Addr} {sl_is_tuple_of : Array (Option Value)} {oc_is_tuple_of kV_is_tuple_of dc_is_tuple_of pm_is_tuple_of cd_is_tuple_of ct_is_tuple_of : Value}
    (a_is_tuple_of : PySem.W.nsIn K mainGlobals "is_tuple_of" = some (some (.ref f_is_tuple_of))) (l_is_tuple_of : K.lookup f_is_tuple_of = some ⟨oc_is_tuple_of, od_is_tuple_of, .func (PySem.W.fnOf "is_tuple_of" "is_tuple_of" (defArgs (topS 16)) (defBody (topS 16)) (defScope (topS 16)) .none kV_is_tuple_of dc_is_tuple_of pm_is_tuple_of an_is_tuple_of cd_is_tuple_of ct_is_tuple_of), sl_is_tuple_of⟩) (c_is_tuple_of_ : PySem.W.codeIn K cd_is_tuple_of "is_tuple_of" = true) (q_is_tuple_of : PySem.W.keepIn K (.ref f_is_tuple_of) = true)
    {f_nodes_in : Addr} {od_nodes_in an_nodes_in : Option Addr} {sl_nodes_in : Array (Option Value)} {oc_nodes_in kV_nodes_in dc_nodes_in pm_nodes_in cd_nodes_in ct_nodes_in : Value}
    (a_nodes_in : PySem.W.nsIn K mainGlobals "nodes_in" = some (some (.ref f_nodes_in))) (l_nodes_in : K.lookup f_nodes_in = some ⟨oc_nodes_in, od_nodes_in, .func (PySem.W.fnOf "nodes_in" "nodes_in" (defArgs (topS 32)) (defBody (topS 32)) (defScope (topS 32)) .none kV_nodes_in dc_nodes_in pm_nodes_in an_nodes_in cd_nodes_in ct_nodes_in), sl_nodes_in⟩) (c_nodes_in_ : PySem.W.codeIn K cd_nodes_in "nodes_in" = true) (q_nodes_in : PySem.W.keepIn K (.ref f_nodes_in) = true)
    {f_is_rule : Addr} {od_is_rule an_is_rule : Option Addr} {sl_is_rule : Array (Option Value)} {oc_is_rule kV_is_rule dc_is_rule pm_is_rule cd_is_rule ct_is_rule : Value}
    (a_is_rule : PySem.W.nsIn K mainGlobals "is_rule" = some (some (.ref f_is_rule))) (l_is_rule : K.lookup f_is_rule = some ⟨oc_is_rule, od_is_rule, .func (PySem.W.fnOf "is_rule" "is_rule" (defArgs (topS 34)) (defBody (topS 34)) (defScope (topS 34)) .none kV_is_rule dc_is_rule pm_is_rule an_is_rule cd_is_rule ct_is_rule), sl_is_rule⟩) (c_is_rule_ : PySem.W.codeIn K cd_is_rule "is_rule" = true) (q_is_rule : PySem.W.keepIn K (.ref f_is_rule) = true)
    {f_check_rule : Addr} {od_check_rule an_check_rule : Option Addr} {sl_check_rule : Array (Option Value)} {oc_check_rule kV_check_rule dc_check_rule pm_check_rule cd_check_rule ct_check_rule : Value}
    (a_check_rule : PySem.W.nsIn K mainGlobals "check_rule" = some (some (.ref f_check_rule))) (l_check_rule : K.lookup f_check_rule = some ⟨oc_check_rule, od_check_rule, .func (PySem.W.fnOf "check_rule" "check_rule" (defArgs (topS 35)) (defBody (topS 35)) (defScope (topS 35)) .none kV_check_rule dc_check_rule pm_check_rule an_check_rule cd_check_rule ct_check_rule), sl_check_rule⟩) (c_check_rule_ : PySem.W.codeIn K cd_check_rule "check_rule" = true) (q_check_rule : PySem.W.keepIn K (.ref f_check_rule) = true)
    {f_has_some : Addr} {od_has_some an_has_some : Option Addr} {sl_has_some : Array (Option Value)} {oc_has_some kV_has_some dc_has_some pm_has_some cd_has_some ct_has_some : Value}
    (a_has_some : PySem.W.nsIn K mainGlobals "has_some" = some (some (.ref f_has_some))) (l_has_some : K.lookup f_has_some = some ⟨oc_has_some, od_has_some, .func (PySem.W.fnOf "has_some" "has_some" (defArgs (topS 9)) (defBody (topS 9)) (defScope (topS 9)) .none kV_has_some dc_has_some pm_has_some an_has_some cd_has_some ct_has_some), sl_has_some⟩) (c_has_some_ : PySem.W.codeIn K cd_has_some "has_some" = true) (q_has_some : PySem.W.keepIn K (.ref f_has_some) = true)
    {f_is_last : Addr} {od_is_last an_is_last : Option Addr} {sl_is_last : Array (Option Value)} {oc_is_last kV_is_last dc_is_last pm_is_last cd_is_last ct_is_last : Value}
    (a_is_last : PySem.W.nsIn K mainGlobals "is_last" = some (some (.ref f_is_last))) (l_is_last : K.lookup f_is_last = some ⟨oc_is_last, od_is_last, .func (PySem.W.fnOf "is_last" "is_last" (defArgs (topS 10)) (defBody (topS 10)) (defScope (topS 10)) .none kV_is_last dc_is_last pm_is_last an_is_last cd_is_last ct_is_last), sl_is_last⟩) (c_is_last_ : PySem.W.codeIn K cd_is_last "is_last" = true) (q_is_last : PySem.W.keepIn K (.ref f_is_last) = true)
    {f_atom_holds : Addr} {od_atom_holds an_atom_holds : Option Addr} {sl_atom_holds : Array (Option Value)} {oc_atom_holds kV_atom_holds dc_atom_holds pm_atom_holds cd_atom_holds ct_atom_holds : Value}
    (a_atom_holds : PySem.W.nsIn K mainGlobals "atom_holds" = some (some (.ref f_atom_holds))) (l_atom_holds : K.lookup f_atom_holds = some ⟨oc_atom_holds, od_atom_holds, .func (PySem.W.fnOf "atom_holds" "atom_holds" (defArgs (topS 11)) (defBody (topS 11)) (defScope (topS 11)) .none kV_atom_holds dc_atom_holds pm_atom_holds an_atom_holds cd_atom_holds ct_atom_holds), sl_atom_holds⟩) (c_atom_holds_ : PySem.W.codeIn K cd_atom_holds "atom_holds" = true) (q_atom_holds : PySem.W.keepIn K (.ref f_atom_holds) = true)
    {f_holds_by : Addr} {od_holds_by an_holds_by : Option Addr} {sl_holds_by : Array (Option Value)} {oc_holds_by kV_holds_by dc_holds_by pm_holds_by cd_holds_by ct_holds_by : Value}
    (a_holds_by : PySem.W.nsIn K mainGlobals "holds_by" = some (some (.ref f_holds_by))) (l_holds_by : K.lookup f_holds_by = some ⟨oc_holds_by, od_holds_by, .func (PySem.W.fnOf "holds_by" "holds_by" (defArgs (topS 8)) (defBody (topS 8)) (defScope (topS 8)) .none kV_holds_by dc_holds_by pm_holds_by an_holds_by cd_holds_by ct_holds_by), sl_holds_by⟩) (c_holds_by_ : PySem.W.codeIn K cd_holds_by "holds_by" = true) (q_holds_by : PySem.W.keepIn K (.ref f_holds_by) = true)
    {f_holds_for : Addr} {od_holds_for an_holds_for : Option Addr} {sl_holds_for : Array (Option Value)} {oc_holds_for kV_holds_for dc_holds_for pm_holds_for cd_holds_for ct_holds_for : Value}
    (a_holds_for : PySem.W.nsIn K mainGlobals "holds_for" = some (some (.ref f_holds_for))) (l_holds_for : K.lookup f_holds_for = some ⟨oc_holds_for, od_holds_for, .func (PySem.W.fnOf "holds_for" "holds_for" (defArgs (topS 12)) (defBody (topS 12)) (defScope (topS 12)) .none kV_holds_for dc_holds_for pm_holds_for an_holds_for cd_holds_for ct_holds_for), sl_holds_for⟩) (c_holds_for_ : PySem.W.codeIn K cd_holds_for "holds_for" = true) (q_holds_for : PySem.W.keepIn K (.ref f_holds_for) = true)
    {f_holds : Addr} {od_holds an_holds : Option Addr} {sl_holds : Array (Option Value)} {oc_holds kV_holds dc_holds pm_holds cd_holds ct_holds : Value}
    (a_holds : PySem.W.nsIn K mainGlobals "holds" = some (some (.ref f_holds))) (l_holds : K.lookup f_holds = some ⟨oc_holds, od_holds, .func (PySem.W.fnOf "holds" "holds" (defArgs (topS 37)) (defBody (topS 37)) (defScope (topS 37)) .none kV_holds dc_holds pm_holds an_holds cd_holds ct_holds), sl_holds⟩) (c_holds_ : PySem.W.codeIn K cd_holds "holds" = true) (q_holds : PySem.W.keepIn K (.ref f_holds) = true)
    {f__law_right : Addr} {od__law_right an__law_right : Option Addr} {sl__law_right : Array (Option Value)} {oc__law_right kV__law_right dc__law_right pm__law_right cd__law_right ct__law_right : Value}
    (a__law_right : PySem.W.nsIn K mainGlobals "_law_right" = some (some (.ref f__law_right))) (l__law_right : K.lookup f__law_right = some ⟨oc__law_right, od__law_right, .func (PySem.W.fnOf "_law_right" "_law_right" (defArgs (topS 54)) (defBody (topS 54)) (defScope (topS 54)) .none kV__law_right dc__law_right pm__law_right an__law_right cd__law_right ct__law_right), sl__law_right⟩) (c__law_right_ : PySem.W.codeIn K cd__law_right "_law_right" = true) (q__law_right : PySem.W.keepIn K (.ref f__law_right) = true)
    {f__law_well : Addr} {od__law_well an__law_well : Option Addr} {sl__law_well : Array (Option Value)} {oc__law_well kV__law_well dc__law_well pm__law_well cd__law_well ct__law_well : Value}
    (a__law_well : PySem.W.nsIn K mainGlobals "_law_well" = some (some (.ref f__law_well))) (l__law_well : K.lookup f__law_well = some ⟨oc__law_well, od__law_well, .func (PySem.W.fnOf "_law_well" "_law_well" (defArgs (topS 39)) (defBody (topS 39)) (defScope (topS 39)) .none kV__law_well dc__law_well pm__law_well an__law_well cd__law_well ct__law_well), sl__law_well⟩) (c__law_well_ : PySem.W.codeIn K cd__law_well "_law_well" = true) (q__law_well : PySem.W.keepIn K (.ref f__law_well) = true)
    {f_law : Addr} {od_law an_law : Option Addr} {sl_law : Array (Option Value)} {oc_law kV_law dc_law pm_law cd_law ct_law : Value}
    (a_law : PySem.W.nsIn K mainGlobals "law" = some (some (.ref f_law))) (l_law : K.lookup f_law = some ⟨oc_law, od_law, .func (PySem.W.fnOf "law" "law" (defArgs (topS 55)) (defBody (topS 55)) (defScope (topS 55)) .none kV_law dc_law pm_law an_law cd_law ct_law), sl_law⟩) (c_law_ : PySem.W.codeIn K cd_law "law" = true) (q_law : PySem.W.keepIn K (.ref f_law) = true)
    {cc_wrong_day P_wrong_day : Addr} {e_wrong_day : Value} {dd_wrong_day : Option Addr} {vs_wrong_day : Array Value} {sk_wrong_day : Array (Option Value)} (r_wrong_day : ((recsOf q).any fun e => e.name == "wrong_day") = true) (m1_wrong_day : cd_wrong_day = .ref cc_wrong_day) (m2_wrong_day : K.lookup cc_wrong_day = some ⟨e_wrong_day, dd_wrong_day, .fields vs_wrong_day, sk_wrong_day⟩) (m3_wrong_day : vs_wrong_day[11]? = some (.ref P_wrong_day)) (m4_wrong_day : K.lookup P_wrong_day = none)
    {b_KINDS : Addr} {n_KINDS : Nat} {sx_KINDS : Array (Option Value)} {t_KINDS_0 t_KINDS_1 t_KINDS_2 t_KINDS_3 t_KINDS_4 t_KINDS_5 : Tok} (g1_KINDS : PySem.W.nsIn K mainGlobals "KINDS" = some (some (.ref b_KINDS))) (g2_KINDS : K.lookup b_KINDS = some ⟨.type "tuple", none, .seq #[.str "yes" t_KINDS_0, .str "confirm" t_KINDS_1, .str "open" t_KINDS_2, .str "bounce" t_KINDS_3, .str "no" t_KINDS_4, .str "complain" t_KINDS_5] n_KINDS, sx_KINDS⟩)
    {t_MOST_ATOMS : Tok} (g1_MOST_ATOMS : PySem.W.nsIn K mainGlobals "MOST_ATOMS" = some (some (.int 5 t_MOST_ATOMS)))
    {t_MOST_LAST : Tok} (g1_MOST_LAST : PySem.W.nsIn K mainGlobals "MOST_LAST" = some (some (.int 4 t_MOST_LAST)))
    {t_MOST_LAST_IN_ALL : Tok} (g1_MOST_LAST_IN_ALL : PySem.W.nsIn K mainGlobals "MOST_LAST_IN_ALL" = some (some (.int 8 t_MOST_LAST_IN_ALL)))
    {t_MOST_LEVELS : Tok} (g1_MOST_LEVELS : PySem.W.nsIn K mainGlobals "MOST_LEVELS" = some (some (.int 4 t_MOST_LEVELS)))
    {t_MOST_NODES : Tok} (g1_MOST_NODES : PySem.W.nsIn K mainGlobals "MOST_NODES" = some (some (.int 10 t_MOST_NODES)))
    {t_MOST_TREES : Tok} (g1_MOST_TREES : PySem.W.nsIn K mainGlobals "MOST_TREES" = some (some (.int 6 t_MOST_TREES)))
    (z : (blts.all fun x => (match PySem.W.nsIn K mainGlobals x with | some none => true | _ => false)) = true)
    (hlaw : ∀ ns : List Int, ns.length ≤ 63 → d_law.den [.scr ns] = .ok (.bl true) []) : LawG PySem.Challenge.rw_maypost_k02_whole_rules_hold_by_own_reck w K 35 63 "script" mg fa h := by
  have e := hfa.symm.trans (PySem.W.mg_of X G0 a_law)
  cases e
  subst m1_wrong_day
  have T_wrong_day := te "wrong_day" r_wrong_day _ _ _ _ _ _ _ _ _ (PySem.W.mg_of X G0 a_wrong_day) l_wrong_day rfl rfl m2_wrong_day m3_wrong_day
  let L : Lx := ⟨fun k => if k = 0 then c_0.chk else (fun _ => fun _ => false) k, [(P_wrong_day, fun _ _ => "wrong_day.<locals>.<lambda>")]⟩
  refine ⟨PySem.W.fnOf "law" "law" (defArgs (topS 55)) (defBody (topS 55)) (defScope (topS 55)) .none kV_law dc_law pm_law an_law cd_law ct_law, [(cc_wrong_day, P_wrong_day)], spOf ⟨K, mg, L.lam, L.T, w⟩ d_law.sem, List.forall_mem_cons.mpr ⟨T_wrong_day.1, (fun _ h => (nomatch h))⟩, List.forall_mem_cons.mpr ⟨m4_wrong_day, (fun _ h => (nomatch h))⟩, List.forall_mem_cons.mpr ⟨T_wrong_day.2, (fun _ h => (nomatch h))⟩, fun s u => .of_eq rfl, fun H a ns hl _ hT hS => law_sp rfl rfl rfl (tabs0 (List.forall_mem_cons.mpr ⟨hT (cc_wrong_day, P_wrong_day) (by simp), (fun _ h => (nomatch h))⟩)) hS (hlaw ns hl), fun base kb hb TB => ?_⟩
  let G : Gd := ⟨PySem.Challenge.rw_maypost_k02_whole_rules_hold_by_own_reck.prog, w, K, mg, base, L⟩
  have blt := blt_of X G0 z
  have y_KINDS : GlobOk G.z "KINDS" g_KINDS := globStrs (zs := ["yes", "confirm", "open", "bounce", "no", "complain"]) (PySem.W.mg_of X G0 g1_KINDS) g2_KINDS (by show 6 ≤ sizeLine; decide) (.cons ⟨_, rfl⟩ (.cons ⟨_, rfl⟩ (.cons ⟨_, rfl⟩ (.cons ⟨_, rfl⟩ (.cons ⟨_, rfl⟩ (.cons ⟨_, rfl⟩ .nil)))))) (by decide +kernel)
  have y_MOST_ATOMS : GlobOk G.z "MOST_ATOMS" g_MOST_ATOMS := globInt (PySem.W.mg_of X G0 g1_MOST_ATOMS)
  have y_MOST_LAST : GlobOk G.z "MOST_LAST" g_MOST_LAST := globInt (PySem.W.mg_of X G0 g1_MOST_LAST)
  have y_MOST_LAST_IN_ALL : GlobOk G.z "MOST_LAST_IN_ALL" g_MOST_LAST_IN_ALL := globInt (PySem.W.mg_of X G0 g1_MOST_LAST_IN_ALL)
  have y_MOST_LEVELS : GlobOk G.z "MOST_LEVELS" g_MOST_LEVELS := globInt (PySem.W.mg_of X G0 g1_MOST_LEVELS)
  have y_MOST_NODES : GlobOk G.z "MOST_NODES" g_MOST_NODES := globInt (PySem.W.mg_of X G0 g1_MOST_NODES)
  have y_MOST_TREES : GlobOk G.z "MOST_TREES" g_MOST_TREES := globInt (PySem.W.mg_of X G0 g1_MOST_TREES)
  have h__law_draw : FnW G 1 "_law_draw" d__law_draw.sem := fnW_of (d := d__law_draw) (k := 0) (PySem.W.mg_of X G0 a__law_draw) l__law_draw c__law_draw_ q__law_draw k__law_draw blt (noTab rfl) ⟨(fun _ h => (nomatch h)), (fun _ h => (nomatch h)), (fun _ h => (nomatch h)), (fun _ h => (nomatch h)), (fun _ h => (nomatch h))⟩
  have h__law_kinds : FnW G 1 "_law_kinds" d__law_kinds.sem := fnW_of (d := d__law_kinds) (k := 0) (PySem.W.mg_of X G0 a__law_kinds) l__law_kinds c__law_kinds_ q__law_kinds k__law_kinds blt (noTab rfl) ⟨(fun _ h => (nomatch h)), (fun _ h => (nomatch h)), (fun _ h => (nomatch h)), (fun _ h => (nomatch h)), (fun _ h => (nomatch h))⟩
  have h__law_of : FnW G 2 "_law_of" d__law_of.sem := fnW_of (d := d__law_of) (k := 1) (PySem.W.mg_of X G0 a__law_of) l__law_of c__law_of_ q__law_of k__law_of blt (noTab rfl) ⟨List.forall_mem_cons.mpr ⟨FnW.mono h__law_draw (by decide), (fun _ h => (nomatch h))⟩, (fun _ h => (nomatch h)), (fun _ h => (nomatch h)), (fun _ h => (nomatch h)), (fun _ h => (nomatch h))⟩
  have h__law_unlike : FnW G 2 "_law_unlike" d__law_unlike.sem := fnW_of (d := d__law_unlike) (k := 1) (PySem.W.mg_of X G0 a__law_unlike) l__law_unlike c__law_unlike_ q__law_unlike k__law_unlike blt (noTab rfl) ⟨List.forall_mem_cons.mpr ⟨FnW.mono h__law_draw (by decide), (fun _ h => (nomatch h))⟩, (fun _ h => (nomatch h)), (fun _ h => (nomatch h)), (fun _ h => (nomatch h)), (fun _ h => (nomatch h))⟩
  have h__law_history : FnW G 3 "_law_history" d__law_history.sem := fnW_of (d := d__law_history) (k := 2) (PySem.W.mg_of X G0 a__law_history) l__law_history c__law_history_ q__law_history k__law_history blt (noTab rfl) ⟨List.forall_mem_cons.mpr ⟨FnW.mono h__law_unlike (by decide), List.forall_mem_cons.mpr ⟨FnW.mono h__law_kinds (by decide), List.forall_mem_cons.mpr ⟨FnW.mono h__law_of (by decide), List.forall_mem_cons.mpr ⟨FnW.mono h__law_draw (by decide), List.forall_mem_cons.mpr ⟨FnW.mono h__law_unlike (by decide), List.forall_mem_cons.mpr ⟨FnW.mono h__law_draw (by decide), List.forall_mem_cons.mpr ⟨FnW.mono h__law_of (by decide), (fun _ h => (nomatch h))⟩⟩⟩⟩⟩⟩⟩, (fun _ h => (nomatch h)), (fun _ h => (nomatch h)), (fun _ h => (nomatch h)), (fun _ h => (nomatch h))⟩
  have h__law_atom_holds : FnW G 1 "_law_atom_holds" d__law_atom_holds.sem := fnW_of (d := d__law_atom_holds) (k := 0) (PySem.W.mg_of X G0 a__law_atom_holds) l__law_atom_holds c__law_atom_holds_ q__law_atom_holds k__law_atom_holds blt (noTab rfl) ⟨(fun _ h => (nomatch h)), (fun _ h => (nomatch h)), (fun _ h => (nomatch h)), (fun _ h => (nomatch h)), (fun _ h => (nomatch h))⟩
  have z__law_holds : FnW G 1 "_law_holds" ⟨fun _ => .no, [], false, 2⟩ := fnW_no (d := m__law_holds fun _ => .no) (k := 1) (PySem.W.mg_of X G0 a__law_holds) l__law_holds q__law_holds (k__law_holds _)
  have h__law_holds : FnW G 17 "_law_holds" K02.f__law_holds := fnW_rec (b := 1) z__law_holds (fun r k hk hr => fnW_of (d := m__law_holds r) (k := k) (PySem.W.mg_of X G0 a__law_holds) l__law_holds c__law_holds_ q__law_holds (k__law_holds r) blt (noTab rfl) ⟨List.forall_mem_cons.mpr ⟨hr, List.forall_mem_cons.mpr ⟨hr, List.forall_mem_cons.mpr ⟨FnW.mono h__law_atom_holds (Nat.le_trans (by decide) hk), (fun _ h => (nomatch h))⟩⟩⟩, (fun _ h => (nomatch h)), (fun _ h => (nomatch h)), (fun _ h => (nomatch h)), (fun _ h => (nomatch h))⟩) 16
  have h__law_is : FnW G 1 "_law_is" d__law_is.sem := fnW_of (d := d__law_is) (k := 0) (PySem.W.mg_of X G0 a__law_is) l__law_is c__law_is_ q__law_is k__law_is blt (noTab rfl) ⟨(fun _ h => (nomatch h)), (fun _ h => (nomatch h)), (fun _ h => (nomatch h)), (fun _ h => (nomatch h)), (fun _ h => (nomatch h))⟩
  have h__law_some : FnW G 3 "_law_some" d__law_some.sem := fnW_of (d := d__law_some) (k := 2) (PySem.W.mg_of X G0 a__law_some) l__law_some c__law_some_ q__law_some k__law_some blt (noTab rfl) ⟨List.forall_mem_cons.mpr ⟨FnW.mono h__law_unlike (by decide), List.forall_mem_cons.mpr ⟨FnW.mono h__law_kinds (by decide), List.forall_mem_cons.mpr ⟨FnW.mono h__law_draw (by decide), (fun _ h => (nomatch h))⟩⟩⟩, (fun _ h => (nomatch h)), (fun _ h => (nomatch h)), (fun _ h => (nomatch h)), (fun _ h => (nomatch h))⟩
  have h__law_atom : FnW G 4 "_law_atom" d__law_atom.sem := fnW_of (d := d__law_atom) (k := 3) (PySem.W.mg_of X G0 a__law_atom) l__law_atom c__law_atom_ q__law_atom k__law_atom blt (noTab rfl) ⟨List.forall_mem_cons.mpr ⟨FnW.mono h__law_draw (by decide), List.forall_mem_cons.mpr ⟨FnW.mono h__law_some (by decide), List.forall_mem_cons.mpr ⟨FnW.mono h__law_of (by decide), List.forall_mem_cons.mpr ⟨FnW.mono h__law_some (by decide), List.forall_mem_cons.mpr ⟨FnW.mono h__law_of (by decide), List.forall_mem_cons.mpr ⟨FnW.mono h__law_kinds (by decide), List.forall_mem_cons.mpr ⟨FnW.mono h__law_unlike (by decide), List.forall_mem_cons.mpr ⟨FnW.mono h__law_draw (by decide), List.forall_mem_cons.mpr ⟨FnW.mono h__law_some (by decide), List.forall_mem_cons.mpr ⟨FnW.mono h__law_of (by decide), List.forall_mem_cons.mpr ⟨FnW.mono h__law_draw (by decide), List.forall_mem_cons.mpr ⟨FnW.mono h__law_draw (by decide), List.forall_mem_cons.mpr ⟨FnW.mono h__law_some (by decide), List.forall_mem_cons.mpr ⟨FnW.mono h__law_of (by decide), List.forall_mem_cons.mpr ⟨FnW.mono h__law_draw (by decide), (fun _ h => (nomatch h))⟩⟩⟩⟩⟩⟩⟩⟩⟩⟩⟩⟩⟩⟩⟩, (fun _ h => (nomatch h)), (fun _ h => (nomatch h)), (fun _ h => (nomatch h)), (fun _ h => (nomatch h))⟩
  have h__law_atoms : FnW G 5 "_law_atoms" d__law_atoms.sem := fnW_of (d := d__law_atoms) (k := 4) (PySem.W.mg_of X G0 a__law_atoms) l__law_atoms c__law_atoms_ q__law_atoms k__law_atoms blt (noTab rfl) ⟨List.forall_mem_cons.mpr ⟨FnW.mono h__law_of (by decide), List.forall_mem_cons.mpr ⟨FnW.mono h__law_atom (by decide), (fun _ h => (nomatch h))⟩⟩, (fun _ h => (nomatch h)), (fun _ h => (nomatch h)), (fun _ h => (nomatch h)), (fun _ h => (nomatch h))⟩
  have z__law_nodes : FnW G 0 "_law_nodes" ⟨fun _ => .no, [], false, 1⟩ := fnW_no (d := m__law_nodes fun _ => .no) (k := 0) (PySem.W.mg_of X G0 a__law_nodes) l__law_nodes q__law_nodes (k__law_nodes _)
  have h__law_nodes : FnW G 16 "_law_nodes" K02.f__law_nodes := fnW_rec (b := 0) z__law_nodes (fun r k hk hr => fnW_of (d := m__law_nodes r) (k := k) (PySem.W.mg_of X G0 a__law_nodes) l__law_nodes c__law_nodes_ q__law_nodes (k__law_nodes r) blt (noTab rfl) ⟨List.forall_mem_cons.mpr ⟨hr, List.forall_mem_cons.mpr ⟨hr, (fun _ h => (nomatch h))⟩⟩, (fun _ h => (nomatch h)), (fun _ h => (nomatch h)), (fun _ h => (nomatch h)), (fun _ h => (nomatch h))⟩) 16
  have z__law_tree : FnW G 16 "_law_tree" ⟨fun _ => .no, [0], false, 4⟩ := fnW_no (d := m__law_tree fun _ => .no) (k := 16) (PySem.W.mg_of X G0 a__law_tree) l__law_tree q__law_tree (k__law_tree _)
  have h__law_tree : FnW G 32 "_law_tree" K02.f__law_tree := fnW_rec (b := 16) z__law_tree (fun r k hk hr => fnW_of (d := m__law_tree r) (k := k) (PySem.W.mg_of X G0 a__law_tree) l__law_tree c__law_tree_ q__law_tree (k__law_tree r) blt (noTab rfl) ⟨List.forall_mem_cons.mpr ⟨FnW.mono h__law_draw (Nat.le_trans (by decide) hk), List.forall_mem_cons.mpr ⟨FnW.mono h__law_of (Nat.le_trans (by decide) hk), List.forall_mem_cons.mpr ⟨FnW.mono h__law_draw (Nat.le_trans (by decide) hk), List.forall_mem_cons.mpr ⟨hr, List.forall_mem_cons.mpr ⟨FnW.mono h__law_draw (Nat.le_trans (by decide) hk), List.forall_mem_cons.mpr ⟨hr, List.forall_mem_cons.mpr ⟨FnW.mono h__law_draw (Nat.le_trans (by decide) hk), List.forall_mem_cons.mpr ⟨FnW.mono h__law_nodes (Nat.le_trans (by decide) hk), List.forall_mem_cons.mpr ⟨FnW.mono h__law_of (Nat.le_trans (by decide) hk), (fun _ h => (nomatch h))⟩⟩⟩⟩⟩⟩⟩⟩⟩, (fun _ h => (nomatch h)), (fun _ h => (nomatch h)), (fun _ h => (nomatch h)), (fun _ h => (nomatch h))⟩) 16
  have h__law_rule : FnW G 33 "_law_rule" d__law_rule.sem := fnW_of (d := d__law_rule) (k := 32) (PySem.W.mg_of X G0 a__law_rule) l__law_rule c__law_rule_ q__law_rule k__law_rule blt (noTab rfl) ⟨List.forall_mem_cons.mpr ⟨FnW.mono h__law_tree (by decide), List.forall_mem_cons.mpr ⟨FnW.mono h__law_atoms (by decide), List.forall_mem_cons.mpr ⟨FnW.mono h__law_of (by decide), (fun _ h => (nomatch h))⟩⟩⟩, (fun _ h => (nomatch h)), (fun _ h => (nomatch h)), (fun _ h => (nomatch h)), (fun _ h => (nomatch h))⟩
  have h_is_ascending : FnW G 1 "is_ascending" d_is_ascending.sem := fnW_of (d := d_is_ascending) (k := 0) (PySem.W.mg_of X G0 a_is_ascending) l_is_ascending c_is_ascending_ q_is_ascending k_is_ascending blt (noTab rfl) ⟨(fun _ h => (nomatch h)), (fun _ h => (nomatch h)), (fun _ h => (nomatch h)), (fun _ h => (nomatch h)), (fun _ h => (nomatch h))⟩
  have h_is_one_of : FnW G 1 "is_one_of" d_is_one_of.sem := fnW_of (d := d_is_one_of) (k := 0) (PySem.W.mg_of X G0 a_is_one_of) l_is_one_of c_is_one_of_ q_is_one_of k_is_one_of blt (noTab rfl) ⟨(fun _ h => (nomatch h)), (fun _ h => (nomatch h)), (fun _ h => (nomatch h)), (fun _ h => (nomatch h)), (fun _ h => (nomatch h))⟩
  have h_is_day : FnW G 2 "is_day" d_is_day.sem := fnW_of (d := d_is_day) (k := 1) (PySem.W.mg_of X G0 a_is_day) l_is_day c_is_day_ q_is_day k_is_day blt (noTab rfl) ⟨List.forall_mem_cons.mpr ⟨FnW.mono h_is_one_of (by decide), List.forall_mem_cons.mpr ⟨FnW.mono h_is_ascending (by decide), (fun _ h => (nomatch h))⟩⟩, List.forall_mem_cons.mpr ⟨y_KINDS, List.forall_mem_cons.mpr ⟨y_KINDS, (fun _ h => (nomatch h))⟩⟩, (fun _ h => (nomatch h)), (fun _ h => (nomatch h)), (fun _ h => (nomatch h))⟩
  have H_0 : CloW G 3 0 c_0.sem := clo_ok (k := 2) (fun J hJ => hJ) blt ⟨List.forall_mem_cons.mpr ⟨FnW.mono h_is_day (by decide), (fun _ h => (nomatch h))⟩, (fun _ h => (nomatch h)), (fun _ h => (nomatch h)), (fun _ h => (nomatch h)), (fun _ h => (nomatch h))⟩
  have h_wrong_at : FnW G 4 "wrong_at" d_wrong_at.sem := fnW_of (d := d_wrong_at) (k := 3) (PySem.W.mg_of X G0 a_wrong_at) l_wrong_at c_wrong_at_ q_wrong_at k_wrong_at blt (noTab rfl) ⟨(fun _ h => (nomatch h)), (fun _ h => (nomatch h)), (fun _ h => (nomatch h)), List.forall_mem_cons.mpr ⟨CloW.mono H_0 (by decide), (fun _ h => (nomatch h))⟩, (fun _ h => (nomatch h))⟩
  have h_wrong_day : FnW G 5 "wrong_day" d_wrong_day.sem := fnW_of (d := d_wrong_day) (k := 4) (PySem.W.mg_of X G0 a_wrong_day) l_wrong_day c_wrong_day_ q_wrong_day k_wrong_day blt (fun nm e => by cases e; exact ⟨cc_wrong_day, P_wrong_day, rfl, TB (cc_wrong_day, P_wrong_day) (by simp), by simp [G, L], by simp [G, L]⟩) ⟨List.forall_mem_cons.mpr ⟨FnW.mono h_wrong_at (by decide), (fun _ h => (nomatch h))⟩, (fun _ h => (nomatch h)), (fun _ h => (nomatch h)), (fun _ h => (nomatch h)), List.forall_mem_cons.mpr ⟨rfl, (fun _ h => (nomatch h))⟩⟩
  have h_check_history : FnW G 6 "check_history" d_check_history.sem := fnW_of (d := d_check_history) (k := 5) (PySem.W.mg_of X G0 a_check_history) l_check_history c_check_history_ q_check_history k_check_history blt (noTab rfl) ⟨List.forall_mem_cons.mpr ⟨FnW.mono h_wrong_day (by decide), (fun _ h => (nomatch h))⟩, (fun _ h => (nomatch h)), (fun _ h => (nomatch h)), (fun _ h => (nomatch h)), (fun _ h => (nomatch h))⟩
  have h_trees_in : FnW G 1 "trees_in" d_trees_in.sem := fnW_of (d := d_trees_in) (k := 0) (PySem.W.mg_of X G0 a_trees_in) l_trees_in c_trees_in_ q_trees_in k_trees_in blt (noTab rfl) ⟨(fun _ h => (nomatch h)), (fun _ h => (nomatch h)), (fun _ h => (nomatch h)), (fun _ h => (nomatch h)), (fun _ h => (nomatch h))⟩
  have z_all_atoms : FnW G 1 "all_atoms" ⟨fun _ => .no, [], false, 1⟩ := fnW_no (d := m_all_atoms fun _ => .no) (k := 1) (PySem.W.mg_of X G0 a_all_atoms) l_all_atoms q_all_atoms (k_all_atoms _)
  have h_all_atoms : FnW G 17 "all_atoms" K02.f_all_atoms := fnW_rec (b := 1) z_all_atoms (fun r k hk hr => fnW_of (d := m_all_atoms r) (k := k) (PySem.W.mg_of X G0 a_all_atoms) l_all_atoms c_all_atoms_ q_all_atoms (k_all_atoms r) blt (noTab rfl) ⟨List.forall_mem_cons.mpr ⟨FnW.mono h_trees_in (Nat.le_trans (by decide) hk), List.forall_mem_cons.mpr ⟨hr, (fun _ h => (nomatch h))⟩⟩, (fun _ h => (nomatch h)), (fun _ h => (nomatch h)), (fun _ h => (nomatch h)), (fun _ h => (nomatch h))⟩) 16
  have h_atoms_of : FnW G 18 "atoms_of" d_atoms_of.sem := fnW_of (d := d_atoms_of) (k := 17) (PySem.W.mg_of X G0 a_atoms_of) l_atoms_of c_atoms_of_ q_atoms_of k_atoms_of blt (noTab rfl) ⟨List.forall_mem_cons.mpr ⟨FnW.mono h_all_atoms (by decide), (fun _ h => (nomatch h))⟩, (fun _ h => (nomatch h)), (fun _ h => (nomatch h)), (fun _ h => (nomatch h)), (fun _ h => (nomatch h))⟩
  have h_last_of : FnW G 1 "last_of" d_last_of.sem := fnW_of (d := d_last_of) (k := 0) (PySem.W.mg_of X G0 a_last_of) l_last_of c_last_of_ q_last_of k_last_of blt (noTab rfl) ⟨(fun _ h => (nomatch h)), (fun _ h => (nomatch h)), (fun _ h => (nomatch h)), (fun _ h => (nomatch h)), (fun _ h => (nomatch h))⟩
  have h_are_kinds : FnW G 3 "are_kinds" d_are_kinds.sem := fnW_of (d := d_are_kinds) (k := 2) (PySem.W.mg_of X G0 a_are_kinds) l_are_kinds c_are_kinds_ q_are_kinds k_are_kinds blt (noTab rfl) ⟨List.forall_mem_cons.mpr ⟨FnW.mono h_is_day (by decide), (fun _ h => (nomatch h))⟩, (fun _ h => (nomatch h)), (fun _ h => (nomatch h)), (fun _ h => (nomatch h)), (fun _ h => (nomatch h))⟩
  have h_is_whole : FnW G 1 "is_whole" d_is_whole.sem := fnW_of (d := d_is_whole) (k := 0) (PySem.W.mg_of X G0 a_is_whole) l_is_whole c_is_whole_ q_is_whole k_is_whole blt (noTab rfl) ⟨(fun _ h => (nomatch h)), (fun _ h => (nomatch h)), (fun _ h => (nomatch h)), (fun _ h => (nomatch h)), (fun _ h => (nomatch h))⟩
  have h_is_number : FnW G 2 "is_number" d_is_number.sem := fnW_of (d := d_is_number) (k := 1) (PySem.W.mg_of X G0 a_is_number) l_is_number c_is_number_ q_is_number k_is_number blt (noTab rfl) ⟨List.forall_mem_cons.mpr ⟨FnW.mono h_is_whole (by decide), (fun _ h => (nomatch h))⟩, (fun _ h => (nomatch h)), (fun _ h => (nomatch h)), (fun _ h => (nomatch h)), (fun _ h => (nomatch h))⟩
  have h_is_atom : FnW G 4 "is_atom" d_is_atom.sem := fnW_of (d := d_is_atom) (k := 3) (PySem.W.mg_of X G0 a_is_atom) l_is_atom c_is_atom_ q_is_atom k_is_atom blt (noTab rfl) ⟨List.forall_mem_cons.mpr ⟨FnW.mono h_are_kinds (by decide), List.forall_mem_cons.mpr ⟨FnW.mono h_are_kinds (by decide), List.forall_mem_cons.mpr ⟨FnW.mono h_is_number (by decide), List.forall_mem_cons.mpr ⟨FnW.mono h_is_number (by decide), List.forall_mem_cons.mpr ⟨FnW.mono h_is_number (by decide), (fun _ h => (nomatch h))⟩⟩⟩⟩⟩, List.forall_mem_cons.mpr ⟨y_MOST_LAST, List.forall_mem_cons.mpr ⟨y_MOST_LAST, (fun _ h => (nomatch h))⟩⟩, (fun _ h => (nomatch h)), (fun _ h => (nomatch h)), (fun _ h => (nomatch h))⟩
  have h_is_tuple_of : FnW G 1 "is_tuple_of" d_is_tuple_of.sem := fnW_of (d := d_is_tuple_of) (k := 0) (PySem.W.mg_of X G0 a_is_tuple_of) l_is_tuple_of c_is_tuple_of_ q_is_tuple_of k_is_tuple_of blt (noTab rfl) ⟨(fun _ h => (nomatch h)), (fun _ h => (nomatch h)), (fun _ h => (nomatch h)), (fun _ h => (nomatch h)), (fun _ h => (nomatch h))⟩
  have z_nodes_in : FnW G 4 "nodes_in" ⟨fun _ => .no, [], false, 2⟩ := fnW_no (d := m_nodes_in fun _ => .no) (k := 4) (PySem.W.mg_of X G0 a_nodes_in) l_nodes_in q_nodes_in (k_nodes_in _)
  have h_nodes_in : FnW G 20 "nodes_in" K02.f_nodes_in := fnW_rec (b := 4) z_nodes_in (fun r k hk hr => fnW_of (d := m_nodes_in r) (k := k) (PySem.W.mg_of X G0 a_nodes_in) l_nodes_in c_nodes_in_ q_nodes_in (k_nodes_in r) blt (noTab rfl) ⟨List.forall_mem_cons.mpr ⟨FnW.mono h_is_tuple_of (Nat.le_trans (by decide) hk), List.forall_mem_cons.mpr ⟨FnW.mono h_is_one_of (Nat.le_trans (by decide) hk), List.forall_mem_cons.mpr ⟨FnW.mono h_is_atom (Nat.le_trans (by decide) hk), List.forall_mem_cons.mpr ⟨hr, (fun _ h => (nomatch h))⟩⟩⟩⟩, List.forall_mem_cons.mpr ⟨y_MOST_NODES, List.forall_mem_cons.mpr ⟨y_MOST_TREES, List.forall_mem_cons.mpr ⟨y_MOST_NODES, (fun _ h => (nomatch h))⟩⟩⟩, (fun _ h => (nomatch h)), (fun _ h => (nomatch h)), (fun _ h => (nomatch h))⟩) 16
  have h_is_rule : FnW G 21 "is_rule" d_is_rule.sem := fnW_of (d := d_is_rule) (k := 20) (PySem.W.mg_of X G0 a_is_rule) l_is_rule c_is_rule_ q_is_rule k_is_rule blt (noTab rfl) ⟨List.forall_mem_cons.mpr ⟨FnW.mono h_nodes_in (by decide), List.forall_mem_cons.mpr ⟨FnW.mono h_atoms_of (by decide), List.forall_mem_cons.mpr ⟨FnW.mono h_last_of (by decide), (fun _ h => (nomatch h))⟩⟩⟩, List.forall_mem_cons.mpr ⟨y_MOST_LEVELS, List.forall_mem_cons.mpr ⟨y_MOST_NODES, List.forall_mem_cons.mpr ⟨y_MOST_ATOMS, List.forall_mem_cons.mpr ⟨y_MOST_LAST_IN_ALL, (fun _ h => (nomatch h))⟩⟩⟩⟩, (fun _ h => (nomatch h)), (fun _ h => (nomatch h)), (fun _ h => (nomatch h))⟩
  have h_check_rule : FnW G 22 "check_rule" d_check_rule.sem := fnW_of (d := d_check_rule) (k := 21) (PySem.W.mg_of X G0 a_check_rule) l_check_rule c_check_rule_ q_check_rule k_check_rule blt (noTab rfl) ⟨List.forall_mem_cons.mpr ⟨FnW.mono h_is_rule (by decide), (fun _ h => (nomatch h))⟩, (fun _ h => (nomatch h)), (fun _ h => (nomatch h)), (fun _ h => (nomatch h)), (fun _ h => (nomatch h))⟩
  have h_has_some : FnW G 1 "has_some" d_has_some.sem := fnW_of (d := d_has_some) (k := 0) (PySem.W.mg_of X G0 a_has_some) l_has_some c_has_some_ q_has_some k_has_some blt (noTab rfl) ⟨(fun _ h => (nomatch h)), (fun _ h => (nomatch h)), (fun _ h => (nomatch h)), (fun _ h => (nomatch h)), (fun _ h => (nomatch h))⟩
  have h_is_last : FnW G 1 "is_last" d_is_last.sem := fnW_of (d := d_is_last) (k := 0) (PySem.W.mg_of X G0 a_is_last) l_is_last c_is_last_ q_is_last k_is_last blt (noTab rfl) ⟨(fun _ h => (nomatch h)), (fun _ h => (nomatch h)), (fun _ h => (nomatch h)), (fun _ h => (nomatch h)), (fun _ h => (nomatch h))⟩
  have h_atom_holds : FnW G 2 "atom_holds" d_atom_holds.sem := fnW_of (d := d_atom_holds) (k := 1) (PySem.W.mg_of X G0 a_atom_holds) l_atom_holds c_atom_holds_ q_atom_holds k_atom_holds blt (noTab rfl) ⟨List.forall_mem_cons.mpr ⟨FnW.mono h_has_some (by decide), List.forall_mem_cons.mpr ⟨FnW.mono h_is_last (by decide), List.forall_mem_cons.mpr ⟨FnW.mono h_has_some (by decide), (fun _ h => (nomatch h))⟩⟩⟩, (fun _ h => (nomatch h)), (fun _ h => (nomatch h)), (fun _ h => (nomatch h)), (fun _ h => (nomatch h))⟩
  have z_holds_by : FnW G 0 "holds_by" ⟨fun _ => .no, [], false, 2⟩ := fnW_no (d := m_holds_by fun _ => .no) (k := 0) (PySem.W.mg_of X G0 a_holds_by) l_holds_by q_holds_by (k_holds_by _)
  have h_holds_by : FnW G 16 "holds_by" K02.f_holds_by := fnW_rec (b := 0) z_holds_by (fun r k hk hr => fnW_of (d := m_holds_by r) (k := k) (PySem.W.mg_of X G0 a_holds_by) l_holds_by c_holds_by_ q_holds_by (k_holds_by r) blt (noTab rfl) ⟨List.forall_mem_cons.mpr ⟨hr, List.forall_mem_cons.mpr ⟨hr, List.forall_mem_cons.mpr ⟨hr, (fun _ h => (nomatch h))⟩⟩⟩, (fun _ h => (nomatch h)), (fun _ h => (nomatch h)), (fun _ h => (nomatch h)), (fun _ h => (nomatch h))⟩) 16
  have h_holds_for : FnW G 19 "holds_for" d_holds_for.sem := fnW_of (d := d_holds_for) (k := 18) (PySem.W.mg_of X G0 a_holds_for) l_holds_for c_holds_for_ q_holds_for k_holds_for blt (noTab rfl) ⟨List.forall_mem_cons.mpr ⟨FnW.mono h_holds_by (by decide), List.forall_mem_cons.mpr ⟨FnW.mono h_atoms_of (by decide), List.forall_mem_cons.mpr ⟨FnW.mono h_atom_holds (by decide), (fun _ h => (nomatch h))⟩⟩⟩, (fun _ h => (nomatch h)), (fun _ h => (nomatch h)), (fun _ h => (nomatch h)), (fun _ h => (nomatch h))⟩
  have h_holds : FnW G 23 "holds" d_holds.sem := fnW_of (d := d_holds) (k := 22) (PySem.W.mg_of X G0 a_holds) l_holds c_holds_ q_holds k_holds blt (noTab rfl) ⟨List.forall_mem_cons.mpr ⟨FnW.mono h_check_rule (by decide), List.forall_mem_cons.mpr ⟨FnW.mono h_check_history (by decide), List.forall_mem_cons.mpr ⟨FnW.mono h_holds_for (by decide), (fun _ h => (nomatch h))⟩⟩⟩, (fun _ h => (nomatch h)), (fun _ h => (nomatch h)), (fun _ h => (nomatch h)), (fun _ h => (nomatch h))⟩
  have w_holds : FnWK G 23 "holds" d_holds.sem ["history", "rule"] [1, 0] := fnWK_of (d := d_holds) (k := 22) (PySem.W.mg_of X G0 a_holds) l_holds c_holds_ q_holds k_holds blt (noTab rfl) ⟨List.forall_mem_cons.mpr ⟨FnW.mono h_check_rule (by decide), List.forall_mem_cons.mpr ⟨FnW.mono h_check_history (by decide), List.forall_mem_cons.mpr ⟨FnW.mono h_holds_for (by decide), (fun _ h => (nomatch h))⟩⟩⟩, (fun _ h => (nomatch h)), (fun _ h => (nomatch h)), (fun _ h => (nomatch h)), (fun _ h => (nomatch h))⟩ fun ws hl => match ws, hl with | [_, _], _ => rfl
  have h__law_right : FnW G 34 "_law_right" d__law_right.sem := fnW_of (d := d__law_right) (k := 33) (PySem.W.mg_of X G0 a__law_right) l__law_right c__law_right_ q__law_right k__law_right blt (noTab rfl) ⟨List.forall_mem_cons.mpr ⟨FnW.mono h__law_is (by decide), List.forall_mem_cons.mpr ⟨FnW.mono h__law_kinds (by decide), List.forall_mem_cons.mpr ⟨FnW.mono h__law_rule (by decide), List.forall_mem_cons.mpr ⟨FnW.mono h__law_history (by decide), List.forall_mem_cons.mpr ⟨FnW.mono h__law_holds (by decide), List.forall_mem_cons.mpr ⟨FnW.mono h__law_is (by decide), List.forall_mem_cons.mpr ⟨FnW.mono h_holds (by decide), List.forall_mem_cons.mpr ⟨FnW.mono h_holds (by decide), List.forall_mem_cons.mpr ⟨FnW.mono h__law_is (by decide), List.forall_mem_cons.mpr ⟨FnW.mono h__law_holds (by decide), List.forall_mem_cons.mpr ⟨FnW.mono h__law_holds (by decide), (fun _ h => (nomatch h))⟩⟩⟩⟩⟩⟩⟩⟩⟩⟩⟩, List.forall_mem_cons.mpr ⟨y_KINDS, (fun _ h => (nomatch h))⟩, List.forall_mem_cons.mpr ⟨FnWK.mono w_holds (by decide), (fun _ h => (nomatch h))⟩, (fun _ h => (nomatch h)), (fun _ h => (nomatch h))⟩
  have h__law_well : FnW G 1 "_law_well" d__law_well.sem := fnW_of (d := d__law_well) (k := 0) (PySem.W.mg_of X G0 a__law_well) l__law_well c__law_well_ q__law_well k__law_well blt (noTab rfl) ⟨(fun _ h => (nomatch h)), (fun _ h => (nomatch h)), (fun _ h => (nomatch h)), (fun _ h => (nomatch h)), (fun _ h => (nomatch h))⟩
  have kl := k_law
  unfold Df.all at kl
  rw [Bool.and_eq_true] at kl
  exact df_ok (G := G) (d := d_law) (k := 34) l_law c_law_ kl.1 blt (noTab rfl) ⟨List.forall_mem_cons.mpr ⟨FnW.mono h__law_right (by decide), List.forall_mem_cons.mpr ⟨FnW.mono h__law_well (by decide), (fun _ h => (nomatch h))⟩⟩, (fun _ h => (nomatch h)), (fun _ h => (nomatch h)), (fun _ h => (nomatch h)), (fun _ h => (nomatch h))⟩
end K02
open PySem PySem.W PyProof.Rows Ev
set_option maxRecDepth 100000 in
set_option maxHeartbeats 0 in
theorem PySem.Challenge.cw_maypost_k02_whole_rules_hold_by_own_reck_holds : PySem.Challenge.rw_maypost_k02_whole_rules_hold_by_own_reck.Holds := by
  w_on; o_law; k_head; (case hw => w_witness2)
  k_fill
  refine Ev.walk_G (l := PySem.Challenge.rw_maypost_k02_whole_rules_hold_by_own_reck) (n := 63) (k := 35) (x := "script") rfl (by decide) rfl ⟨rfl, by decide, by decide⟩ (fun w h Y => (by first | exact PySem.W.kIn_of Y | exact PySem.W.km_in_of Y)) ?F
  case F =>
    intro w mg fa h Y KX G hmg te
    refine' K02.all_mk KX G hmg te ?a__law_draw ?l__law_draw ?c__law_draw_ ?q__law_draw ?a__law_kinds ?l__law_kinds ?c__law_kinds_ ?q__law_kinds ?a__law_of ?l__law_of ?c__law_of_ ?q__law_of ?a__law_unlike ?l__law_unlike ?c__law_unlike_ ?q__law_unlike ?a__law_history ?l__law_history ?c__law_history_ ?q__law_history ?a__law_atom_holds ?l__law_atom_holds ?c__law_atom_holds_ ?q__law_atom_holds ?a__law_holds ?l__law_holds ?c__law_holds_ ?q__law_holds ?a__law_is ?l__law_is ?c__law_is_ ?q__law_is ?a__law_some ?l__law_some ?c__law_some_ ?q__law_some ?a__law_atom ?l__law_atom ?c__law_atom_ ?q__law_atom ?a__law_atoms ?l__law_atoms ?c__law_atoms_ ?q__law_atoms ?a__law_nodes ?l__law_nodes ?c__law_nodes_ ?q__law_nodes ?a__law_tree ?l__law_tree ?c__law_tree_ ?q__law_tree ?a__law_rule ?l__law_rule ?c__law_rule_ ?q__law_rule ?a_is_ascending ?l_is_ascending ?c_is_ascending_ ?q_is_ascending ?a_is_one_of ?l_is_one_of ?c_is_one_of_ ?q_is_one_of ?a_is_day ?l_is_day ?c_is_day_ ?q_is_day ?a_wrong_at ?l_wrong_at ?c_wrong_at_ ?q_wrong_at ?a_wrong_day ?l_wrong_day ?c_wrong_day_ ?q_wrong_day ?a_check_history ?l_check_history ?c_check_history_ ?q_check_history ?a_trees_in ?l_trees_in ?c_trees_in_ ?q_trees_in ?a_all_atoms ?l_all_atoms ?c_all_atoms_ ?q_all_atoms ?a_atoms_of ?l_atoms_of ?c_atoms_of_ ?q_atoms_of ?a_last_of ?l_last_of ?c_last_of_ ?q_last_of ?a_are_kinds ?l_are_kinds ?c_are_kinds_ ?q_are_kinds ?a_is_whole ?l_is_whole ?c_is_whole_ ?q_is_whole ?a_is_number ?l_is_number ?c_is_number_ ?q_is_number ?a_is_atom ?l_is_atom ?c_is_atom_ ?q_is_atom ?a_is_tuple_of ?l_is_tuple_of ?c_is_tuple_of_ ?q_is_tuple_of ?a_nodes_in ?l_nodes_in ?c_nodes_in_ ?q_nodes_in ?a_is_rule ?l_is_rule ?c_is_rule_ ?q_is_rule ?a_check_rule ?l_check_rule ?c_check_rule_ ?q_check_rule ?a_has_some ?l_has_some ?c_has_some_ ?q_has_some ?a_is_last ?l_is_last ?c_is_last_ ?q_is_last ?a_atom_holds ?l_atom_holds ?c_atom_holds_ ?q_atom_holds ?a_holds_by ?l_holds_by ?c_holds_by_ ?q_holds_by ?a_holds_for ?l_holds_for ?c_holds_for_ ?q_holds_for ?a_holds ?l_holds ?c_holds_ ?q_holds ?a__law_right ?l__law_right ?c__law_right_ ?q__law_right ?a__law_well ?l__law_well ?c__law_well_ ?q__law_well ?a_law ?l_law ?c_law_ ?q_law ?r_wrong_day ?m1_wrong_day ?m2_wrong_day ?m3_wrong_day ?m4_wrong_day ?g1_KINDS ?g2_KINDS ?g1_MOST_ATOMS ?g1_MOST_LAST ?g1_MOST_LAST_IN_ALL ?g1_MOST_LEVELS ?g1_MOST_NODES ?g1_MOST_TREES ?z K02.law_true
    (case a__law_draw => k_is)
    (case l__law_draw => k_is)
    (case c__law_draw_ => k_is)
    (case q__law_draw => k_is)
    (case a__law_kinds => k_is)
    (case l__law_kinds => k_is)
    (case c__law_kinds_ => k_is)
    (case q__law_kinds => k_is)
    (case a__law_of => k_is)
    (case l__law_of => k_is)
    (case c__law_of_ => k_is)
    (case q__law_of => k_is)
    (case a__law_unlike => k_is)
    (case l__law_unlike => k_is)
    (case c__law_unlike_ => k_is)
    (case q__law_unlike => k_is)
    (case a__law_history => k_is)
    (case l__law_history => k_is)
    (case c__law_history_ => k_is)
    (case q__law_history => k_is)
    (case a__law_atom_holds => k_is)
    (case l__law_atom_holds => k_is)
    (case c__law_atom_holds_ => k_is)
    (case q__law_atom_holds => k_is)
    (case a__law_holds => k_is)
    (case l__law_holds => k_is)
    (case c__law_holds_ => k_is)
    (case q__law_holds => k_is)
    (case a__law_is => k_is)
    (case l__law_is => k_is)
    (case c__law_is_ => k_is)
    (case q__law_is => k_is)
    (case a__law_some => k_is)
    (case l__law_some => k_is)
    (case c__law_some_ => k_is)
    (case q__law_some => k_is)
    (case a__law_atom => k_is)
    (case l__law_atom => k_is)
    (case c__law_atom_ => k_is)
    (case q__law_atom => k_is)
    (case a__law_atoms => k_is)
    (case l__law_atoms => k_is)
    (case c__law_atoms_ => k_is)
    (case q__law_atoms => k_is)
    (case a__law_nodes => k_is)
    (case l__law_nodes => k_is)
    (case c__law_nodes_ => k_is)
    (case q__law_nodes => k_is)
    (case a__law_tree => k_is)
    (case l__law_tree => k_is)
    (case c__law_tree_ => k_is)
    (case q__law_tree => k_is)
    (case a__law_rule => k_is)
    (case l__law_rule => k_is)
    (case c__law_rule_ => k_is)
    (case q__law_rule => k_is)
    (case a_is_ascending => k_is)
    (case l_is_ascending => k_is)
    (case c_is_ascending_ => k_is)
    (case q_is_ascending => k_is)
    (case a_is_one_of => k_is)
    (case l_is_one_of => k_is)
    (case c_is_one_of_ => k_is)
    (case q_is_one_of => k_is)
    (case a_is_day => k_is)
    (case l_is_day => k_is)
    (case c_is_day_ => k_is)
    (case q_is_day => k_is)
    (case a_wrong_at => k_is)
    (case l_wrong_at => k_is)
    (case c_wrong_at_ => k_is)
    (case q_wrong_at => k_is)
    (case a_wrong_day => k_is)
    (case l_wrong_day => k_is)
    (case c_wrong_day_ => k_is)
    (case q_wrong_day => k_is)
    (case a_check_history => k_is)
    (case l_check_history => k_is)
    (case c_check_history_ => k_is)
    (case q_check_history => k_is)
    (case a_trees_in => k_is)
    (case l_trees_in => k_is)
    (case c_trees_in_ => k_is)
    (case q_trees_in => k_is)
    (case a_all_atoms => k_is)
    (case l_all_atoms => k_is)
    (case c_all_atoms_ => k_is)
    (case q_all_atoms => k_is)
    (case a_atoms_of => k_is)
    (case l_atoms_of => k_is)
    (case c_atoms_of_ => k_is)
    (case q_atoms_of => k_is)
    (case a_last_of => k_is)
    (case l_last_of => k_is)
    (case c_last_of_ => k_is)
    (case q_last_of => k_is)
    (case a_are_kinds => k_is)
    (case l_are_kinds => k_is)
    (case c_are_kinds_ => k_is)
    (case q_are_kinds => k_is)
    (case a_is_whole => k_is)
    (case l_is_whole => k_is)
    (case c_is_whole_ => k_is)
    (case q_is_whole => k_is)
    (case a_is_number => k_is)
    (case l_is_number => k_is)
    (case c_is_number_ => k_is)
    (case q_is_number => k_is)
    (case a_is_atom => k_is)
    (case l_is_atom => k_is)
    (case c_is_atom_ => k_is)
    (case q_is_atom => k_is)
    (case a_is_tuple_of => k_is)
    (case l_is_tuple_of => k_is)
    (case c_is_tuple_of_ => k_is)
    (case q_is_tuple_of => k_is)
    (case a_nodes_in => k_is)
    (case l_nodes_in => k_is)
    (case c_nodes_in_ => k_is)
    (case q_nodes_in => k_is)
    (case a_is_rule => k_is)
    (case l_is_rule => k_is)
    (case c_is_rule_ => k_is)
    (case q_is_rule => k_is)
    (case a_check_rule => k_is)
    (case l_check_rule => k_is)
    (case c_check_rule_ => k_is)
    (case q_check_rule => k_is)
    (case a_has_some => k_is)
    (case l_has_some => k_is)
    (case c_has_some_ => k_is)
    (case q_has_some => k_is)
    (case a_is_last => k_is)
    (case l_is_last => k_is)
    (case c_is_last_ => k_is)
    (case q_is_last => k_is)
    (case a_atom_holds => k_is)
    (case l_atom_holds => k_is)
    (case c_atom_holds_ => k_is)
    (case q_atom_holds => k_is)
    (case a_holds_by => k_is)
    (case l_holds_by => k_is)
    (case c_holds_by_ => k_is)
    (case q_holds_by => k_is)
    (case a_holds_for => k_is)
    (case l_holds_for => k_is)
    (case c_holds_for_ => k_is)
    (case q_holds_for => k_is)
    (case a_holds => k_is)
    (case l_holds => k_is)
    (case c_holds_ => k_is)
    (case q_holds => k_is)
    (case a__law_right => k_is)
    (case l__law_right => k_is)
    (case c__law_right_ => k_is)
    (case q__law_right => k_is)
    (case a__law_well => k_is)
    (case l__law_well => k_is)
    (case c__law_well_ => k_is)
    (case q__law_well => k_is)
    (case a_law => k_is)
    (case l_law => k_is)
    (case c_law_ => k_is)
    (case q_law => k_is)
    (case r_wrong_day => decide +kernel)
    (case m1_wrong_day => rfl)
    (case m2_wrong_day => k_is)
    (case m3_wrong_day => rfl)
    (case m4_wrong_day => first | kernel_rfl | rfl | decide +kernel)
    (case g1_KINDS => k_is)
    (case g2_KINDS => k_is)
    (case g1_MOST_ATOMS => k_is)
    (case g1_MOST_LAST => k_is)
    (case g1_MOST_LAST_IN_ALL => k_is)
    (case g1_MOST_LEVELS => k_is)
    (case g1_MOST_NODES => k_is)
    (case g1_MOST_TREES => k_is)
    (case z => first | kernel_rfl | rfl | decide +kernel)
