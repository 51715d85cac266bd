import PyProof.Rows.All
import Wide.All
import OpenK.AllK
import Wide.FinOn
import HandS.ForMost
import HandS.Star
import HandS.Walk
import HandS.Zip
import HandS.Conv
import HandS.Wide
import KE.DataEq
import HandS.TupAny
import HandS.IsInst
import HandS.Style
import HandS.SortInts
import HandS.SetFor
import KE.GoesEnum
import KE.GoesZip
import KE.GoesMore
import PyProof.InstNe
import KE.OsSort
import HandS.Dict
import HandS.New0
import OpenK.KMake
import HandS.TupMul
import PySem.Challenge.RW_storepages_k55_across_blocks
set_option Elab.async false
set_option linter.all false
set_option maxRecDepth 100000
set_option maxHeartbeats 1000000
namespace Z
open PySem PySem.Spec PyProof.Rows L2

/-! ## plain data -/
/-- a list among the objects of the module -/
def SqK (K : PySem.W.Frag) (a : Addr) (xs : List V) : Prop := ∃ (o : Obj) (its : Array Value) (n : Nat), K.lookup a = some o ∧ o.cls = .type "list" ∧ o.dict = none ∧ o.data = .seq its n ∧ its.size ≤ sizeLine ∧ Vals xs its.toList
inductive D where
  | non | bl (b : Bool) | int (i : Int) | str (s : Str)
  | sq (t : Bool) (ds : List D)
  | dk (kvs : List (Key × D))
  | ob (C : Addr) (fs : List (Str × D))
  | ow (a : Addr)
  | fz (K : PySem.W.Frag) (ds : List D)

def sqO (t : Bool) (vs : List V) : HO := match t with
  | true => .tup vs
  | false => .lst vs
def isD : HO → Bool
  | .dK _ => true
  | .dT _ => true
  | _ => false

mutual
/-- the value v stands, in the frozen heap F, for the data d -/
inductive Rep (F : Hp) : V → D → Prop
  | non : Rep F .non .non
  | bl (b : Bool) : Rep F (.bl b) (.bl b)
  | int (i : Int) : Rep F (.int i) (.int i)
  | str (s : Str) : Rep F (.str s) (.str s)
  | sq {a : Addr} {t : Bool} {vs : List V} {ds : List D} : F a = some (sqO t vs) → Reps F vs ds → ds.length ≤ 100000 → Rep F (.ref a) (.sq t ds)
  | dk {a : Addr} {vs : List (Key × V)} {ds : List (Key × D)} : Rd F a (.dK vs) → RepK F vs ds → ds.length ≤ 100000 → Rep F (.ref a) (.dk ds)
  | ow (a : Addr) : Rep F (.ref a) (.ow a)
  | fz {a : Addr} {K : PySem.W.Frag} {vs : List V} {ds : List D} : ((∃ o, F a = some (.frz o (.lst vs))) ∨ SqK K a vs) → Reps F vs ds → ds.length ≤ 100000 → Rep F (.ref a) (.fz K ds)
  | ob {a C dx : Addr} {vs : List (Str × V)} {ds : List (Str × D)} : F a = some (.ins C dx vs) → RepF F vs ds → Rep F (.ref a) (.ob C ds)
inductive Reps (F : Hp) : List V → List D → Prop
  | nil : Reps F [] []
  | cons {v : V} {d : D} {vs : List V} {ds : List D} : Rep F v d → Reps F vs ds → Reps F (v :: vs) (d :: ds)
inductive RepK (F : Hp) : List (Key × V) → List (Key × D) → Prop
  | nil : RepK F [] []
  | cons {k : Key} {v : V} {d : D} {vs : List (Key × V)} {ds : List (Key × D)} : Rep F v d → RepK F vs ds → RepK F ((k, v) :: vs) ((k, d) :: ds)
inductive RepF (F : Hp) : List (Str × V) → List (Str × D) → Prop
  | nil : RepF F [] []
  | cons {k : Str} {v : V} {d : D} {vs : List (Str × V)} {ds : List (Str × D)} : Rep F v d → RepF F vs ds → RepF F ((k, v) :: vs) ((k, d) :: ds)
end

mutual
theorem Rep.mono {F F' : Hp} (e : Same F F') : ∀ {v : V} {d : D}, Rep F v d → Rep F' v d
  | _, _, .non => .non
  | _, _, .bl b => .bl b
  | _, _, .int i => .int i
  | _, _, .str s => .str s
  | _, _, .sq h r z => .sq (e _ _ h) (Reps.mono e r) z
  | _, _, .dk h r z => .dk (h.elim (fun h => .inl (e _ _ h)) fun ⟨o, h⟩ => .inr ⟨o, e _ _ h⟩) (RepK.mono e r) z
  | _, _, .ow a => .ow a
  | _, _, .fz h r z => .fz (h.imp (fun ⟨o, q⟩ => ⟨o, e _ _ q⟩) id) (Reps.mono e r) z
  | _, _, .ob h r => .ob (e _ _ h) (RepF.mono e r)
theorem Reps.mono {F F' : Hp} (e : Same F F') : ∀ {v : List V} {d : List D}, Reps F v d → Reps F' v d
  | _, _, .nil => .nil
  | _, _, .cons h r => .cons (Rep.mono e h) (Reps.mono e r)
theorem RepK.mono {F F' : Hp} (e : Same F F') : ∀ {v : List (Key × V)} {d : List (Key × D)}, RepK F v d → RepK F' v d
  | _, _, .nil => .nil
  | _, _, .cons h r => .cons (Rep.mono e h) (RepK.mono e r)
theorem RepF.mono {F F' : Hp} (e : Same F F') : ∀ {v : List (Str × V)} {d : List (Str × D)}, RepF F v d → RepF F' v d
  | _, _, .nil => .nil
  | _, _, .cons h r => .cons (Rep.mono e h) (RepF.mono e r)
end
theorem Reps.length {F : Hp} : ∀ {vs : List V} {ds : List D}, Reps F vs ds → vs.length = ds.length
  | _, _, .nil => rfl
  | _, _, .cons _ r => congrArg (· + 1) r.length
theorem Reps.get {F : Hp} : ∀ {vs : List V} {ds : List D} {i : Nat} {v : V}, Reps F vs ds → vs[i]? = some v → ∃ d, ds[i]? = some d ∧ Rep F v d
  | _, _, _, _, .nil, h => by simp at h
  | _, _, 0, v, .cons r _, h => by simp at h; subst h; exact ⟨_, rfl, r⟩
  | _, _, i + 1, v, .cons _ r, h => r.get (i := i) (by simpa using h)
theorem Reps.get' {F : Hp} : ∀ {vs : List V} {ds : List D} {i : Nat} {d : D}, Reps F vs ds → ds[i]? = some d → ∃ v, vs[i]? = some v ∧ Rep F v d
  | _, _, _, _, .nil, h => by simp at h
  | _, _, 0, v, .cons r _, h => by simp at h; subst h; exact ⟨_, rfl, r⟩
  | _, _, i + 1, v, .cons _ r, h => r.get' (i := i) (by simpa using h)
theorem Reps.append {F : Hp} : ∀ {vs ws : List V} {ds es : List D}, Reps F vs ds → Reps F ws es → Reps F (vs ++ ws) (ds ++ es)
  | _, _, _, _, .nil, s => s
  | _, _, _, _, .cons r t, s => .cons r (t.append s)
theorem Reps.snoc {F : Hp} {vs : List V} {ds : List D} {v : V} {d : D} (h : Reps F vs ds) (r : Rep F v d) : Reps F (vs ++ [v]) (ds ++ [d]) := h.append (.cons r .nil)
theorem Reps.take {F : Hp} : ∀ {vs : List V} {ds : List D} (n : Nat), Reps F vs ds → Reps F (vs.take n) (ds.take n)
  | _, _, 0, _ => by simp; exact .nil
  | _, _, n + 1, .nil => .nil
  | _, _, n + 1, .cons r t => .cons r (t.take n)
theorem Reps.drop {F : Hp} : ∀ {vs : List V} {ds : List D} (n : Nat), Reps F vs ds → Reps F (vs.drop n) (ds.drop n)
  | _, _, 0, r => r
  | _, _, n + 1, .nil => .nil
  | _, _, n + 1, .cons r t => t.drop n
theorem Reps.reverse {F : Hp} : ∀ {vs : List V} {ds : List D}, Reps F vs ds → Reps F vs.reverse ds.reverse
  | _, _, .nil => .nil
  | _, _, .cons r t => by rw [List.reverse_cons, List.reverse_cons]; exact t.reverse.snoc r
theorem Reps.set {F : Hp} : ∀ {vs : List V} {ds : List D} {v : V} {d : D} (n : Nat), Reps F vs ds → Rep F v d → Reps F (vs.set n v) (ds.set n d)
  | _, _, _, _, _, .nil, _ => .nil
  | _, _, _, _, 0, .cons _ t, r => .cons r t
  | _, _, _, _, n + 1, .cons q t, r => .cons q (t.set n r)
theorem Reps.ints {F : Hp} : ∀ {vs : List V} {ns : List Int}, Reps F vs (ns.map D.int) → vs = ns.map V.int
  | _, [], .nil => rfl
  | _, n :: ns, .cons r t => by cases r; rw [List.map_cons, t.ints]
theorem Reps.of_ints {F : Hp} : ∀ (ns : List Int), Reps F (ns.map V.int) (ns.map D.int)
  | [] => .nil
  | n :: ns => .cons (.int n) (of_ints ns)
theorem Reps.strs {F : Hp} : ∀ {vs : List V} {ns : List Str}, Reps F vs (ns.map D.str) → vs = ns.map V.str
  | _, [], .nil => rfl
  | _, n :: ns, .cons r t => by cases r; rw [List.map_cons, t.strs]
theorem Reps.of_strs {F : Hp} : ∀ (ns : List Str), Reps F (ns.map V.str) (ns.map D.str)
  | [] => .nil
  | n :: ns => .cons (.str n) (of_strs ns)
theorem Reps.bls {F : Hp} : ∀ {vs : List V} {ns : List Bool}, Reps F vs (ns.map D.bl) → vs = ns.map V.bl
  | _, [], .nil => rfl
  | _, n :: ns, .cons r t => by cases r; rw [List.map_cons, t.bls]

/-! ## worlds: F frozen, W owned, H all -/
def Sub (F H : Hp) : Prop := ∀ a o, F a = some o → H a = some o ∨ (isD o = true ∧ ∃ od, H a = some (.frz od o))
structure Wd (F W H : Hp) : Prop where
  f : Sub F H
  w : ∀ a o, W a = some o → H a = some o
  d : ∀ a o, F a = some o → W a = none
structure Go (F W H F' W' H' : Hp) : Prop where
  st : Wd F' W' H'
  ex : Same F F'
  keep : ∀ a o, H a = some o → W a = none → H' a = some o
  nF : ∀ a o, F a = none → F' a = some o → H a = none ∨ ∃ u, W a = some u
  nW : ∀ a o, W' a = some o → (∃ u, W a = some u) ∨ H a = none
theorem Sub.some {F H : Hp} (s : Sub F H) {a : Addr} {o : HO} (h : F a = some o) : ∃ u, H a = some u := by
  rcases s a o h with q | ⟨_, od, q⟩
  · exact ⟨_, q⟩
  · exact ⟨_, q⟩
theorem opt_cases {α : Type} (x : Option α) : x = none ∨ ∃ o, x = some o := by
  cases x with
  | none => exact .inl rfl
  | some o => exact .inr ⟨o, rfl⟩
theorem Go.refl {F W H : Hp} (w : Wd F W H) : Go F W H F W H := ⟨w, Same.refl F, fun _ _ h _ => h, (fun a o h q => absurd (h.symm.trans q) (by simp)), fun _ o h => Or.inl ⟨o, h⟩⟩
theorem Go.trans {F W H F1 W1 H1 F2 W2 H2 : Hp} (a : Go F W H F1 W1 H1) (b : Go F1 W1 H1 F2 W2 H2) : Go F W H F2 W2 H2 := by
  have keepW : ∀ x o, H x = some o → W x = none → W1 x = none := fun x o h hw => by
    rcases opt_cases (W1 x) with q | ⟨u, q⟩
    · exact q
    · rcases a.nW x u q with ⟨z, hz⟩ | z
      · rw [hw] at hz; cases hz
      · rw [h] at z; cases z
  refine ⟨b.st, a.ex.trans b.ex, fun x o h hw => b.keep x o (a.keep x o h hw) (keepW x o h hw), fun x o h q => ?_, fun x o q => ?_⟩
  · rcases opt_cases (F1 x) with q1 | ⟨u, q1⟩
    · rcases b.nF x o q1 q with z | ⟨u, z⟩
      · rcases opt_cases (H x) with h0 | ⟨u, h0⟩
        · exact .inl h0
        · rcases opt_cases (W x) with w0 | w0
          · rw [a.keep x u h0 w0] at z; cases z
          · exact .inr w0
      · rcases a.nW x u z with z | z
        · exact .inr z
        · exact .inl z
    · exact a.nF x u h q1
  · rcases b.nW x o q with ⟨u, z⟩ | z
    · exact a.nW x u z
    · rcases opt_cases (H x) with h0 | ⟨u, h0⟩
      · exact .inr h0
      · rcases opt_cases (W x) with w0 | w0
        · rw [a.keep x u h0 w0] at z; cases z
        · exact .inl w0
theorem Wd.mono {F F1 W H : Hp} (w : Wd F1 W H) (e : Same F F1) : Wd F W H := ⟨fun a o h => w.f a o (e a o h), w.w, fun a o h => w.d a o (e a o h)⟩
/-- over a greater frozen heap -/
theorem Go.up {F W H F' W' H' F1 : Hp} (g : Go F W H F' W' H') (e : Same F F1) (w : Wd F1 W H) : ∃ F1', Same F' F1' ∧ Go F1 W H F1' W' H' := by
  refine ⟨fun a => match F1 a with | some o => some o | none => F' a, fun a o h => ?_, ⟨fun a o h => ?_, g.st.w, fun a o h => ?_⟩, fun a o h => ?_, g.keep, fun a o h q => ?_, g.nW⟩
  · show (match F1 a with | some o => some o | none => F' a) = some o
    rcases opt_cases (F1 a) with q | ⟨u, q⟩
    · rw [q]; exact h
    · rw [q]
      rcases opt_cases (F a) with z | ⟨z, hz⟩
      · rcases g.nF a o z h with y | ⟨y, hy⟩
        · obtain ⟨x, hx⟩ := w.f.some q
          rw [y] at hx; cases hx
        · rw [w.d a u q] at hy; cases hy
      · have e1 := e a z hz
        have e2 := g.ex a z hz
        rw [q] at e1; rw [h] at e2
        cases e1; cases e2; rfl
  · have h : (match F1 a with | some o => some o | none => F' a) = some o := h
    rcases opt_cases (F1 a) with q | ⟨u, q⟩
    · rw [q] at h; exact g.st.f a o h
    · rw [q] at h; cases h
      rcases w.f a o q with z | ⟨z, od, y⟩
      · exact .inl (g.keep a o z (w.d a o q))
      · exact .inr ⟨z, od, g.keep a _ y (w.d a o q)⟩
  · have h : (match F1 a with | some o => some o | none => F' a) = some o := h
    rcases opt_cases (F1 a) with q | ⟨u, q⟩
    · rw [q] at h; exact g.st.d a o h
    · rcases opt_cases (W' a) with z | ⟨z, hz⟩
      · exact z
      · rcases g.nW a z hz with ⟨y, hy⟩ | y
        · rw [w.d a u q] at hy; cases hy
        · obtain ⟨x, hx⟩ := w.f.some q
          rw [y] at hx; cases hx
  · show (match F1 a with | some o => some o | none => F' a) = some o
    rw [h]
  · have q : (match F1 a with | some o => some o | none => F' a) = some o := q
    rw [h] at q
    refine g.nF a o ?_ q
    rcases opt_cases (F a) with z | ⟨z, hz⟩
    · exact z
    · rw [e a z hz] at h; cases h
/-- a new frozen object -/
theorem Go.new {F W H : Hp} (w : Wd F W H) {p : Addr} {o : HO} (hp : H p = none) : Go F W H (upd F p o) W (upd H p o) := by
  have fp : F p = none := by
    rcases opt_cases (F p) with z | ⟨z, hz⟩
    · exact z
    · obtain ⟨u, hu⟩ := w.f.some hz
      rw [hp] at hu; cases hu
  have wp : W p = none := by
    rcases opt_cases (W p) with z | ⟨z, hz⟩
    · exact z
    · rw [w.w p z hz] at hp; cases hp
  refine ⟨⟨fun a u h => ?_, fun a u h => ?_, fun a u h => ?_⟩, fun a u h => ?_, fun a u h _ => ?_, fun a u h q => ?_, fun a u h => .inl ⟨u, h⟩⟩
  · by_cases e : a = p
    · subst e; rw [upd_same] at h ⊢; exact .inl h
    · rw [upd_ne e] at h ⊢; exact w.f a u h
  · rw [upd_ne (ne_of_none (w.w a u h) hp)]; exact w.w a u h
  · by_cases e : a = p
    · subst e; exact wp
    · rw [upd_ne e] at h; exact w.d a u h
  · rw [upd_ne (ne_of_none h fp)]; exact h
  · rw [upd_ne (ne_of_none h hp)]; exact h
  · by_cases e : a = p
    · subst e; exact .inl hp
    · rw [upd_ne e] at q; rw [h] at q; cases q
/-- what changed nothing -/
theorem Go.frame {F W H F' H' : Hp} (g : Go F (fun _ => none) H F' (fun _ => none) H') (w : Wd F W H) : Go F W H F' W H' := by
  refine ⟨⟨g.st.f, fun a o h => g.keep a o (w.w a o h) rfl, fun a o h => ?_⟩, g.ex, fun a o h _ => g.keep a o h rfl, fun a o h q => ?_, fun a o h => .inl ⟨o, h⟩⟩
  · rcases opt_cases (F a) with z | ⟨z, hz⟩
    · rcases g.nF a o z h with y | ⟨_, y⟩
      · rcases opt_cases (W a) with x | ⟨x, hx⟩
        · exact x
        · rw [w.w a x hx] at y; cases y
      · cases y
    · exact w.d a z hz
  · rcases g.nF a o h q with y | ⟨_, y⟩
    · exact .inl y
    · cases y

/-! ## the greatest readings -/
def tmE (X : Cx) (e : Expr) : TE := fun σ H Q => ∀ pins s, Inv X pins σ H s → wpAny (model X.prog X.w) X.A (eval e X.env) (EP X pins σ Q) X.xe s
theorem pe_tm {X : Cx} {e : Expr} : PE X e (tmE X e) := ⟨fun pins s _ _ _ I h => h pins s I⟩
theorem tm_of {X : Cx} {e : Expr} {t : TE} (h : PE X e t) {σ : L2.St} {H : Hp} {Q : VK} (q : t σ H Q) : tmE X e σ H Q := fun pins s I => h.run pins s σ H Q I q
def tmT (X : Cx) (e : Expr) : TT := fun σ H Q => ∀ pins s, Inv X pins σ H s → wpAny (model X.prog X.w) X.A (isTrue e X.env (eval e X.env)) (TP X pins σ Q) X.xe s
theorem pt_tm {X : Cx} {e : Expr} : PT X e (tmT X e) := ⟨fun pins s _ _ _ I h => h pins s I⟩
theorem tmT_of {X : Cx} {e : Expr} {t : TT} (h : PT X e t) {σ : L2.St} {H : Hp} {Q : Bool → Hp → Prop} (q : t σ H Q) : tmT X e σ H Q := fun pins s I => h.run pins s σ H Q I q
def tmW (X : Cx) (e : Expr) : TT := fun σ H Q => ∀ whole pins s, Inv X pins σ H s → wpAny (model X.prog X.w) X.A (isTrue e X.env whole) (TP X pins σ Q) X.xe s
theorem pw_tm {X : Cx} {e : Expr} : PW X e (tmW X e) := ⟨fun whole pins s _ _ _ I h => h whole pins s I⟩
theorem tmW_of {X : Cx} {e : Expr} {t : TT} (h : PW X e t) {σ : L2.St} {H : Hp} {Q : Bool → Hp → Prop} (q : t σ H Q) : tmW X e σ H Q := fun whole pins s I => h.run whole pins s σ H Q I q
def tmA (X : Cx) (es : List Expr) : TA := fun σ H Q => ∀ pos pins s, Inv X pins σ H s → wpAny (model X.prog X.w) X.A (spliced (backTo pos (starEach es X.env))) (AP X pins σ Q) X.xe s
theorem pa_tm {X : Cx} {es : List Expr} : PA X es (tmA X es) := ⟨fun pos pins s _ _ _ I h => h pos pins s I⟩
theorem tmA_of {X : Cx} {es : List Expr} {t : TA} (h : PA X es t) {σ : L2.St} {H : Hp} {Q : List V → Hp → Prop} (q : t σ H Q) : tmA X es σ H Q := fun pos pins s I => h.run pos pins s σ H Q I q
def tmS (X : Cx) (st : Stmt) : TS := fun D σ H => ∀ pins s, Inv X pins σ H s → wpAny (model X.prog X.w) X.A (exec st X.env) (SP X pins D) X.xe s
theorem ps_tm {X : Cx} {st : Stmt} : PS X st (tmS X st) := ⟨fun pins s _ _ _ I h => h pins s I⟩
theorem tmS_of {X : Cx} {st : Stmt} {t : TS} (h : PS X st t) {σ : L2.St} {H : Hp} {D : Ends} (q : t D σ H) : tmS X st D σ H := fun pins s I => h.run pins s σ H D I q
def tmB (X : Cx) (st : List Stmt) : TS := fun D σ H => ∀ pins s, Inv X pins σ H s → wpAny (model X.prog X.w) X.A (execs st X.env) (SP X pins D) X.xe s
theorem pss_tm {X : Cx} {st : List Stmt} : PSs X st (tmB X st) := ⟨fun pins s _ _ _ I h => h pins s I⟩
theorem tmB_of {X : Cx} {st : List Stmt} {t : TS} (h : PSs X st t) {σ : L2.St} {H : Hp} {D : Ends} (q : t D σ H) : tmB X st D σ H := fun pins s I => h.run pins s σ H D I q
def tmI (X : Cx) (tg e : Expr) : TI := fun σ H R => ∀ pins s, Inv X pins σ H s → wpAny (model X.prog X.w) X.A (eval e X.env) (fun v s1 => wpAny (model X.prog X.w) X.A (pyIter v) (PIE X pins σ tg R) X.xe s1) X.xe s
theorem pi_tm {X : Cx} {tg e : Expr} : PI X tg e (tmI X tg e) := ⟨fun pins s _ _ _ I h => h pins s I⟩
theorem tmI_of {X : Cx} {tg e : Expr} {t : TI} (h : PI X tg e t) {σ : L2.St} {H : Hp} {R : It → Hp → Prop} (q : t σ H R) : tmI X tg e σ H R := fun pins s I => h.run pins s σ H R I q

/-! ## what an expression makes -/
def EvS (X : Cx) (e : Expr) (σ : L2.St) (F W : Hp) (d : D) (W' : Hp) : Prop :=
  ∀ H, Wd F W H → ∀ Q : VK, (∀ v F' H', Go F W H F' W' H' → Rep F' v d → Q v H') → tmE X e σ H Q
def EvT (X : Cx) (e : Expr) (σ : L2.St) (F W : Hp) (b : Bool) (W' : Hp) : Prop :=
  ∀ H, Wd F W H → ∀ Q : Bool → Hp → Prop, (∀ F' H', Go F W H F' W' H' → Q b H') → tmT X e σ H Q
def EvW (X : Cx) (e : Expr) (σ : L2.St) (F W : Hp) (b : Bool) (W' : Hp) : Prop :=
  ∀ H, Wd F W H → ∀ Q : Bool → Hp → Prop, (∀ F' H', Go F W H F' W' H' → Q b H') → tmW X e σ H Q
def EvA (X : Cx) (es : List Expr) (σ : L2.St) (F W : Hp) (ds : List D) (W' : Hp) : Prop :=
  ∀ H, Wd F W H → ∀ Q : List V → Hp → Prop, (∀ vs F' H', Go F W H F' W' H' → Reps F' vs ds → Q vs H') → tmA X es σ H Q
section
variable {X : Cx} {e a b : Expr} {es : List Expr} {σ : L2.St} {F F1 W W1 W2 W3 : Hp} {d d1 d2 : D} {ds : List D} {k : Bool} {pos : Pos}
theorem EvS.mono (h : EvS X e σ F W d W1) (ex : Same F F1) : EvS X e σ F1 W d W1 := fun H w Q q =>
  h H (w.mono ex) Q fun v F' H' g r => by
    obtain ⟨F2, e2, g2⟩ := g.up ex w
    exact q v F2 H' g2 (r.mono e2)
theorem EvT.mono (h : EvT X e σ F W k W1) (ex : Same F F1) : EvT X e σ F1 W k W1 := fun H w Q q =>
  h H (w.mono ex) Q fun F' H' g => by
    obtain ⟨F2, e2, g2⟩ := g.up ex w
    exact q F2 H' g2
theorem EvW.mono (h : EvW X e σ F W k W1) (ex : Same F F1) : EvW X e σ F1 W k W1 := fun H w Q q =>
  h H (w.mono ex) Q fun F' H' g => by
    obtain ⟨F2, e2, g2⟩ := g.up ex w
    exact q F2 H' g2
theorem EvA.mono (h : EvA X es σ F W ds W1) (ex : Same F F1) : EvA X es σ F1 W ds W1 := fun H w Q q =>
  h H (w.mono ex) Q fun v F' H' g r => by
    obtain ⟨F2, e2, g2⟩ := g.up ex w
    exact q v F2 H' g2 (r.mono e2)
/-- one more step behind what was done -/
theorem EvS.then {H F0 W0 H0 : Hp} (h : EvS X e σ F W d W1) (g0 : Go F0 W0 H0 F W H) {Q : VK} (q : ∀ v F' H', Go F W H F' W1 H' → Go F0 W0 H0 F' W1 H' → Rep F' v d → Q v H') : tmE X e σ H Q :=
  h H g0.st Q fun v F' H' g r => q v F' H' g (g0.trans g) r
theorem ev_is (h : EvS X e σ F W d W1) (q : d = d1) : EvS X e σ F W d1 W1 := by rw [← q]; exact h
theorem et_is {k' : Bool} (h : EvT X e σ F W k W1) (q : k = k') : EvT X e σ F W k' W1 := by rw [← q]; exact h
theorem ea_is {ds' : List D} (h : EvA X es σ F W ds W1) (q : ds = ds') : EvA X es σ F W ds' W1 := by rw [← q]; exact h

/-! ### names, constants -/
theorem ev_var {i : Nat} {x : Str} {v : V} (hs : σ[i]? = some (some v)) (r : Rep F v d) (hN : X.N[i]? = some x := by rfl) (hv : Vis X.env.scope x := by first | exact Or.inl rfl | exact Or.inr (Or.inl rfl) | exact Or.inr (Or.inr rfl))
    (hd : (x == ("__debug__" : Str)) = false := by decide) (hcd : (x == ("__classdict__" : Str)) = false := by decide) : EvS X (.Name x pos) σ F W d W := fun H w Q q =>
  tm_of (pe_var hN hv hd hcd) ⟨v, hs, q v F H (Go.refl w) r⟩
theorem ev_int {i j} : EvS X (.Constant (.int i) j pos) σ F W (.int i) W := fun H w Q q => tm_of pe_int (q _ F H (Go.refl w) (.int i))
theorem ev_bl {i j} : EvS X (.Constant (.bool i) j pos) σ F W (.bl i) W := fun H w Q q => tm_of pe_bl (q _ F H (Go.refl w) (.bl i))
theorem ev_non {j} : EvS X (.Constant .none j pos) σ F W .non W := fun H w Q q => tm_of pe_non (q _ F H (Go.refl w) .non)
theorem ev_str {s j} : EvS X (.Constant (.str s) j pos) σ F W (.str s) W := fun H w Q q => tm_of pe_str (q _ F H (Go.refl w) (.str s))
theorem ev_gint {x : Str} {i : Int} {t : Tok} (hg : Gl X x) (hm : X.mg x = some (.int i t)) (hd : (x == ("__debug__" : Str)) = false := by decide) : EvS X (.Name x pos) σ F W (.int i) W := fun H w Q q =>
  tm_of (pe_glob (v := .int i) hg hm ⟨t, rfl⟩ hd) (q _ F H (Go.refl w) (.int i))
theorem ev_gstr {x : Str} {i : Str} {t : Tok} (hg : Gl X x) (hm : X.mg x = some (.str i t)) (hd : (x == ("__debug__" : Str)) = false := by decide) : EvS X (.Name x pos) σ F W (.str i) W := fun H w Q q =>
  tm_of (pe_glob (v := .str i) hg hm ⟨t, rfl⟩ hd) (q _ F H (Go.refl w) (.str i))

/-! ### operators -/
/-- what a two-place operation on values makes -/
def RR (r : R2) (F W : Hp) (d1 d2 d : D) : Prop := ∀ v1 v2 F1 H1, Same F F1 → Rep F1 v1 d1 → Rep F1 v2 d2 → Wd F1 W H1 → ∀ Q : VK, (∀ v F' H', Go F1 W H1 F' W H' → Rep F' v d → Q v H') → r v1 v2 H1 Q
theorem ev_op {op : Operator} {r : R2} (ho : OpR X (binaryOp op) r) (ha : EvS X a σ F W d1 W1) (hb : EvS X b σ F W1 d2 W2) (hr : RR r F W2 d1 d2 d) : EvS X (.BinOp a op b pos) σ F W d W2 := fun H w Q q =>
  tm_of (pe_op ho pe_tm pe_tm) (ha H w _ fun v1 F1 H1 g1 r1 => (hb.mono g1.ex).then g1 fun v2 F2 H2 g2 g02 r2 =>
    hr v1 v2 F2 H2 g02.ex (r1.mono g2.ex) r2 g2.st Q fun v F' H' g r => q v F' H' (g02.trans g) r)
theorem rr_I0 {g : Int → Int → V} {i j : Int} {dd : D} (hd : ∀ F, Rep F (g i j) dd) : RR (rI0 g) F W (.int i) (.int j) dd := fun v1 v2 F1 H1 _ r1 r2 w Q q => by
  cases r1; cases r2
  exact ⟨i, j, rfl, rfl, q _ F1 H1 (Go.refl w) (hd F1)⟩
theorem rr_I {C : Int → Int → Prop} {g : Int → Int → V} {i j : Int} {dd : D} (hc : C i j) (hd : ∀ F, Rep F (g i j) dd) : RR (rI C g) F W (.int i) (.int j) dd := fun v1 v2 F1 H1 _ r1 r2 w Q q => by
  cases r1; cases r2
  exact ⟨i, j, rfl, rfl, hc, q _ F1 H1 (Go.refl w) (hd F1)⟩
variable {i j : Int}
theorem ev_add (ha : EvS X a σ F W (.int i) W1) (hb : EvS X b σ F W1 (.int j) W2) : EvS X (.BinOp a .Add b pos) σ F W (.int (i + j)) W2 := ev_op op_add ha hb (rr_I0 fun _ => .int _)
theorem ev_sub (ha : EvS X a σ F W (.int i) W1) (hb : EvS X b σ F W1 (.int j) W2) : EvS X (.BinOp a .Sub b pos) σ F W (.int (i - j)) W2 := ev_op op_sub ha hb (rr_I0 fun _ => .int _)
theorem ev_mul (ha : EvS X a σ F W (.int i) W1) (hb : EvS X b σ F W1 (.int j) W2) (hc : CMul i j) : EvS X (.BinOp a .Mult b pos) σ F W (.int (i * j)) W2 := ev_op op_mul ha hb (rr_I hc fun _ => .int _)
theorem ev_mod (ha : EvS X a σ F W (.int i) W1) (hb : EvS X b σ F W1 (.int j) W2) (hc : 0 < j) : EvS X (.BinOp a .Mod b pos) σ F W (.int (i % j)) W2 := ev_op op_mod ha hb (rr_I hc fun _ => .int _)
theorem ev_div (ha : EvS X a σ F W (.int i) W1) (hb : EvS X b σ F W1 (.int j) W2) (hc : CDiv i j) : EvS X (.BinOp a .FloorDiv b pos) σ F W (.int (i / j)) W2 := ev_op op_fdiv ha hb (rr_I hc fun _ => .int _)
theorem ev_pow (ha : EvS X a σ F W (.int i) W1) (hb : EvS X b σ F W1 (.int j) W2) (hc : CPow i j) : EvS X (.BinOp a .Pow b pos) σ F W (.int (i ^ j.toNat)) W2 := ev_op op_pow ha hb (rr_I hc fun _ => .int _)
theorem ev_neg (ha : EvS X a σ F W (.int i) W1) : EvS X (.UnaryOp .USub a pos) σ F W (.int (-i)) W1 := fun H w Q q =>
  tm_of (pe_un un_neg pe_tm) (ha H w _ fun v F1 H1 g r => by cases r; exact ⟨i, rfl, q _ F1 H1 g (.int _)⟩)
/-- lists put together -/
theorem Rep.sq_inv {v : V} {t : Bool} {ds : List D} (r : Rep F v (.sq t ds)) : ∃ a vs, v = .ref a ∧ F a = some (sqO t vs) ∧ Reps F vs ds ∧ ds.length ≤ 100000 := by
  cases r with
  | sq h r z => exact ⟨_, _, rfl, h, r, z⟩
theorem Rep.lst_inv {v : V} {ds : List D} (r : Rep F v (.sq false ds)) : ∃ a vs, v = .ref a ∧ F a = some (.lst vs) ∧ Reps F vs ds ∧ ds.length ≤ 100000 := r.sq_inv
theorem Rep.tup_inv {v : V} {ds : List D} (r : Rep F v (.sq true ds)) : ∃ a vs, v = .ref a ∧ F a = some (.tup vs) ∧ Reps F vs ds ∧ ds.length ≤ 100000 := r.sq_inv
theorem Wd.lst {H : Hp} {p : Addr} {vs : List V} (w : Wd F W H) (h : F p = some (.lst vs)) : H p = some (.lst vs) := by
  rcases w.f p _ h with q | ⟨q, _⟩
  · exact q
  · cases q
theorem Wd.tup {H : Hp} {p : Addr} {vs : List V} (w : Wd F W H) (h : F p = some (.tup vs)) : H p = some (.tup vs) := by
  rcases w.f p _ h with q | ⟨q, _⟩
  · exact q
  · cases q
theorem Wd.ins {H : Hp} {p C dx : Addr} {fs : List (Str × V)} (w : Wd F W H) (h : F p = some (.ins C dx fs)) : H p = some (.ins C dx fs) := by
  rcases w.f p _ h with q | ⟨q, _⟩
  · exact q
  · cases q
theorem Wd.rd {H : Hp} {p : Addr} {o : HO} (w : Wd F W H) (h : F p = some o) : Rd H p o := by
  rcases w.f p _ h with q | ⟨_, q⟩
  · exact .inl q
  · exact .inr q
theorem Wd.rdK {H : Hp} {p : Addr} {vs : List (Key × V)} (w : Wd F W H) (h : Rd F p (.dK vs)) : Rd H p (.dK vs) := by
  rcases h with h | ⟨o, h⟩
  · exact w.rd h
  · rcases w.f p _ h with q | ⟨q, _⟩
    · exact .inr ⟨o, q⟩
    · cases q
theorem Wd.fzl {K : PySem.W.Frag} {H : Hp} {p : Addr} {o : Obj} {vs : List V} (w : Wd F W H) (h : F p = some (.frz o (.lst vs))) : SqL K H p vs := by
  rcases w.f p _ h with q | ⟨q, _⟩
  · exact .inl (.inr ⟨o, q⟩)
  · cases q
/-- the sequence at an address, as the rules read it -/
theorem Wd.seq {K : PySem.W.Frag} {H : Hp} {p : Addr} {t : Bool} {vs : List V} (w : Wd F W H) (h : F p = some (sqO t vs)) : SqL K H p vs ∨ SqT K H p vs := by
  cases t with
  | false => exact .inl (SqL.of (w.lst h))
  | true => exact .inr (SqT.of (w.tup h))
theorem sz_ok {n : Nat} (h : n ≤ 100000) : n ≤ sizeLine := Nat.le_trans h (by decide)
theorem sz_lt {n : Nat} (h : n ≤ 100000) : n < sizeLine := Nat.lt_of_le_of_lt h (by decide)
theorem Go.rep_new {H : Hp} {p : Addr} {t : Bool} {vs : List V} {ds : List D} (w : Wd F W H) (hp : H p = none) (r : Reps F vs ds) (z : ds.length ≤ 100000) : Rep (upd F p (sqO t vs)) (.ref p) (.sq t ds) :=
  .sq upd_same (r.mono (Go.new w hp).ex) z
theorem ev_cat {xs ys : List D} (ha : EvS X a σ F W (.sq false xs) W1) (hb : EvS X b σ F W1 (.sq false ys) W2) (hz : xs.length + ys.length ≤ 100000) : EvS X (.BinOp a .Add b pos) σ F W (.sq false (xs ++ ys)) W2 :=
  ev_op op_cat ha hb fun v1 v2 F1 H1 _ r1 r2 w Q q => by
    obtain ⟨l, vs, rfl, h1, s1, z1⟩ := r1.lst_inv
    obtain ⟨l2, ws, rfl, h2, s2, z2⟩ := r2.lst_inv
    exact ⟨l, l2, vs, ws, rfl, rfl, w.lst h1, w.lst h2, by rw [s1.length, s2.length]; exact sz_ok hz, fun p hp => q _ _ _ (Go.new w hp) (Go.rep_new (t := false) w hp (s1.append s2) (by rw [List.length_append]; exact hz))⟩
theorem ev_catT {xs ys : List D} (ha : EvS X a σ F W (.sq true xs) W1) (hb : EvS X b σ F W1 (.sq true ys) W2) (hne : xs ≠ []) (hz : xs.length + ys.length ≤ 100000) : EvS X (.BinOp a .Add b pos) σ F W (.sq true (xs ++ ys)) W2 :=
  ev_op op_catT ha hb fun v1 v2 F1 H1 _ r1 r2 w Q q => by
    obtain ⟨l, vs, rfl, h1, s1, z1⟩ := id r1.tup_inv
    obtain ⟨l2, ws, rfl, h2, s2, z2⟩ := r2.tup_inv
    refine ⟨l, l2, vs, ws, rfl, rfl, SqT.of (w.tup h1), SqT.of (w.tup h2), fun e => hne ?_, by rw [s1.length, s2.length]; exact sz_ok hz, fun e => ?_, fun _ p hp => q _ _ _ (Go.new w hp) (Go.rep_new (t := true) w hp (s1.append s2) (by rw [List.length_append]; exact hz))⟩
    · subst e; cases s1; rfl
    · subst e; cases s2
      exact q _ _ _ (Go.refl w) (by rw [List.append_nil]; exact r1)
theorem Reps.rep (k : Nat) {vs : List V} {ds : List D} (r : Reps F vs ds) : Reps F (List.replicate k vs).flatten (List.replicate k ds).flatten := by
  induction k with
  | zero => exact .nil
  | succ k ih => rw [List.replicate_succ, List.replicate_succ, List.flatten_cons, List.flatten_cons]; exact r.append ih
theorem ev_rep {xs : List D} {k : Int} (ha : EvS X a σ F W (.sq false xs) W1) (hb : EvS X b σ F W1 (.int k) W2) (hk : k ≤ 100000) (hz : xs.length * k.toNat ≤ 100000) (h0 : -100000 ≤ k) : EvS X (.BinOp a .Mult b pos) σ F W (.sq false (List.replicate k.toNat xs).flatten) W2 :=
  ev_op op_rep ha hb fun v1 v2 F1 H1 _ r1 r2 w Q q => by
    obtain ⟨l, vs, rfl, h1, s1, z1⟩ := r1.lst_inv
    cases r2
    refine ⟨l, k, vs, rfl, rfl, w.lst h1, by omega, by omega, by rw [s1.length]; exact sz_ok hz, fun p hp => q _ _ _ (Go.new w hp) (Go.rep_new (t := false) w hp (s1.rep k.toNat) ?_)⟩
    have := (s1.rep k.toNat).length
    rw [← this]
    simp only [List.length_flatten, List.map_replicate, List.sum_replicate_nat, s1.length]
    rw [Nat.mul_comm]; exact hz
end
end Z
set_option Elab.async false
set_option linter.all false
set_option maxRecDepth 100000
set_option maxHeartbeats 1000000
namespace Z
open PySem PySem.Spec PyProof.Rows L2
section
variable {X : Cx} {e a b c : Expr} {es : List Expr} {σ : L2.St} {F F1 W W1 W2 W3 : Hp} {d d1 d2 d3 : D} {ds : List D} {k k1 k2 : Bool} {pos : Pos} {i j : Int}
/-! ### tests -/
theorem EvT.then {H F0 W0 H0 : Hp} (h : EvT X e σ F W k W1) (g0 : Go F0 W0 H0 F W H) {Q : Bool → Hp → Prop} (q : ∀ F' H', Go F W H F' W1 H' → Go F0 W0 H0 F' W1 H' → Q k H') : tmT X e σ H Q :=
  h H g0.st Q fun F' H' g => q F' H' g (g0.trans g)
theorem et_val (h : EvS X e σ F W (.bl k) W1) (he : ∀ whole, isTrue e X.env whole = (do let v ← whole; standAt e.pos; holding [v] (truthy v)) := by intro _; rfl) : EvT X e σ F W k W1 := fun H w Q q =>
  tmT_of (pt_val pe_tm he) (h H w _ fun v F' H' g r => by cases r; exact ⟨k, rfl, q F' H' g⟩)
theorem ev_cmp {op : CmpOp} {r : R2} (ho : OpR X (compareOp op) r) (ha : EvS X a σ F W d1 W1) (hb : EvS X b σ F W1 d2 W2) (hr : RR r F W2 d1 d2 (.bl k)) (hm : behindInMarks op b = false) : EvS X (.Compare a [op] [b] pos) σ F W (.bl k) W2 := fun H w Q q =>
  tm_of (pe_cmpR ho pe_tm pe_tm hm) (ha H w _ fun v1 F1 H1 g1 r1 => (hb.mono g1.ex).then g1 fun v2 F2 H2 g2 g02 r2 =>
    hr v1 v2 F2 H2 g02.ex (r1.mono g2.ex) r2 g2.st Q fun v F' H' g r => q v F' H' (g02.trans g) r)
theorem et_cmp {op : CmpOp} {r : R2} (ho : OpR X (compareOp op) r) (ha : EvS X a σ F W d1 W1) (hb : EvS X b σ F W1 d2 W2) (hr : RR r F W2 d1 d2 (.bl k)) (hm : behindInMarks op b = false) : EvT X (.Compare a [op] [b] pos) σ F W k W2 := fun H w Q q =>
  tmT_of (pt_cmpR ho pe_tm pe_tm hm) (ha H w _ fun v1 F1 H1 g1 r1 => (hb.mono g1.ex).then g1 fun v2 F2 H2 g2 g02 r2 =>
    hr v1 v2 F2 H2 g02.ex (r1.mono g2.ex) r2 g2.st _ fun v F' H' g r => by cases r; exact ⟨k, rfl, q F' H' (g02.trans g)⟩)
/-- a comparison's rule for what the two sides are -/
structure CmpR (X : Cx) (op : CmpOp) (F W : Hp) (d1 d2 : D) (k : Bool) : Prop where
  ex : ∃ r, OpR X (compareOp op) r ∧ RR r F W d1 d2 (.bl k)
theorem ev_cm {op : CmpOp} (ha : EvS X a σ F W d1 W1) (hb : EvS X b σ F W1 d2 W2) (hr : CmpR X op F W2 d1 d2 k) (hm : behindInMarks op b = false := by first | exact nomark _ | rfl) : EvS X (.Compare a [op] [b] pos) σ F W (.bl k) W2 :=
  let ⟨_, ho, h⟩ := hr.ex; ev_cmp ho ha hb h hm
theorem et_cm {op : CmpOp} (ha : EvS X a σ F W d1 W1) (hb : EvS X b σ F W1 d2 W2) (hr : CmpR X op F W2 d1 d2 k) (hm : behindInMarks op b = false := by first | exact nomark _ | rfl) : EvT X (.Compare a [op] [b] pos) σ F W k W2 :=
  let ⟨_, ho, h⟩ := hr.ex; et_cmp ho ha hb h hm
theorem CmpR.is (h : CmpR X op F W d1 d2 k) (e : k = k1) : CmpR X op F W d1 d2 k1 := by rw [← e]; exact h
theorem cm_lt : CmpR X .Lt F W (.int i) (.int j) (decide (i < j)) := ⟨_, op_lt, rr_I0 fun _ => .bl _⟩
theorem cm_le : CmpR X .LtE F W (.int i) (.int j) (decide (i ≤ j)) := ⟨_, op_le, rr_I0 fun _ => .bl _⟩
theorem cm_gt : CmpR X .Gt F W (.int i) (.int j) (decide (j < i)) := ⟨_, op_gt, rr_I0 fun _ => .bl _⟩
theorem cm_ge : CmpR X .GtE F W (.int i) (.int j) (decide (j ≤ i)) := ⟨_, op_ge, rr_I0 fun _ => .bl _⟩
theorem cm_isN (hr : ∀ F v, Rep F v d1 → decide (v = .non) = k) : CmpR X .Is F W d1 .non k := ⟨_, op_isN, fun v1 v2 F1 H1 _ r1 r2 w Q q => by
  cases r2; exact ⟨rfl, by rw [hr F1 v1 r1]; exact q _ F1 H1 (Go.refl w) (.bl _)⟩⟩
theorem cm_notN (hr : ∀ F v, Rep F v d1 → decide (v = .non) = k) : CmpR X .IsNot F W d1 .non (!k) := ⟨_, op_notN, fun v1 v2 F1 H1 _ r1 r2 w Q q => by
  cases r2; exact ⟨rfl, by rw [hr F1 v1 r1]; exact q _ F1 H1 (Go.refl w) (.bl _)⟩⟩
def D.isN : D → Bool
  | .non => true
  | _ => false
theorem rep_isN {F : Hp} {v : V} {d : D} (r : Rep F v d) : decide (v = .non) = d.isN := by cases r <;> rfl
theorem cm_is : CmpR X .Is F W d1 .non d1.isN := cm_isN fun _ _ r => rep_isN r
theorem cm_isnot : CmpR X .IsNot F W d1 .non (!d1.isN) := cm_notN fun _ _ r => rep_isN r

/-! ### == of plain data -/
end
mutual
def D.pd : D → PyData
  | .non => .none
  | .bl b => .bool b
  | .int i => .int i
  | .str s => .str s
  | .sq false ds => .list (D.pds ds)
  | .sq true ds => .tuple (D.pds ds)
  | .dk _ => .none
  | .ob _ _ => .none
  | .ow _ => .none
  | .fz _ ds => .list (D.pds ds)
def D.pds : List D → List PyData
  | [] => []
  | d :: ds => D.pd d :: D.pds ds
end
mutual
/-- neither a dict nor an instance lies within -/
def D.pl : D → Bool
  | .non => true
  | .bl _ => true
  | .int _ => true
  | .str _ => true
  | .sq _ ds => D.pls ds
  | .dk _ => false
  | .ob _ _ => false
  | .ow _ => false
  | .fz _ _ => false
def D.pls : List D → Bool
  | [] => true
  | d :: ds => D.pl d && D.pls ds
end
mutual
theorem D.pl_plain : ∀ d : D, d.pl = true → d.pd.plain = true
  | .non, _ => rfl
  | .bl _, _ => rfl
  | .int _, _ => rfl
  | .str _, _ => rfl
  | .sq false ds, h => by simp only [D.pd, PyData.plain]; exact D.pls_plain ds (by simpa [D.pl] using h)
  | .sq true ds, h => by simp only [D.pd, PyData.plain]; exact D.pls_plain ds (by simpa [D.pl] using h)
  | .dk _, h => by simp [D.pl] at h
  | .ob _ _, h => by simp [D.pl] at h
  | .ow _, h => by simp [D.pl] at h
  | .fz _ ds, h => by simp [D.pl] at h
theorem D.pls_plain : ∀ ds : List D, D.pls ds = true → PyData.plainAll (D.pds ds) = true
  | [], _ => rfl
  | d :: ds, h => by
    simp only [D.pls, Bool.and_eq_true] at h
    simp only [D.pds, PyData.plainAll, Bool.and_eq_true]
    exact ⟨D.pl_plain d h.1, D.pls_plain ds h.2⟩
end
mutual
theorem Rep.dp {K : PySem.W.Frag} {F W H : Hp} (w : Wd F W H) : ∀ {v : V} {d : D}, Rep F v d → d.pl = true → Dp K H v d.pd
  | _, _, .non, h => .non
  | _, _, .bl b, h => .bl b
  | _, _, .int i, h => .int i
  | _, _, .str s, h => .str s
  | _, _, .sq (t := false) (ds := ds) q r z, h => .lst (SqL.of (w.lst q)) (Reps.dp w r h)
  | _, _, .sq (t := true) (ds := ds) q r z, h => .tup (SqT.of (w.tup q)) (Reps.dp w r h)
  | _, _, .dk _ _ _, h => by simp [D.pl] at h
  | _, _, .ob _ _, h => by simp [D.pl] at h
  | _, _, .ow _, h => by simp [D.pl] at h
  | _, _, .fz (ds := ds) q r z, h => by simp [D.pl] at h
theorem Reps.dp {K : PySem.W.Frag} {F W H : Hp} (w : Wd F W H) : ∀ {v : List V} {d : List D}, Reps F v d → D.pls d = true → DpAll K H v (D.pds d)
  | _, _, .nil, _ => .nil
  | _, _, .cons (d := d) (ds := ds) r t, h => by
    simp only [D.pls, Bool.and_eq_true] at h
    exact .cons (Rep.dp w r h.1) (Reps.dp w t h.2)
end
def D.eqv (a b : D) : Bool := PyData.eqv a.pd b.pd
def D.dep (a : D) : Nat := a.pd.depth
/-- == tells this data apart as Lean's = does -/
structure Lw {α : Type} [DecidableEq α] (f : α → D) (n : Nat) : Prop where
  pl : ∀ x, (f x).pl = true
  dep : ∀ x, (f x).dep ≤ n
  eq : ∀ x y, (f x).eqv (f y) = decide (x = y)
theorem D.pds_map (ds : List D) : D.pds ds = ds.map D.pd := by
  induction ds with
  | nil => rfl
  | cons d ds ih => simp only [D.pds, List.map_cons, ih]
theorem D.pls_all (ds : List D) : D.pls ds = ds.all D.pl := by
  induction ds with
  | nil => rfl
  | cons d ds ih => simp only [D.pls, List.all_cons, ih]
theorem depthAll_le {n : Nat} : ∀ (ds : List PyData), (∀ d ∈ ds, d.depth ≤ n) → PyData.depthAll ds ≤ n
  | [], _ => Nat.zero_le _
  | d :: ds, h => by
    simp only [PyData.depthAll]
    exact Nat.max_le.mpr ⟨h d List.mem_cons_self, depthAll_le ds fun x hx => h x (List.mem_cons_of_mem _ hx)⟩
section
variable {α β γ : Type} [DecidableEq α] [DecidableEq β] [DecidableEq γ] {f : α → D} {g : β → D} {h : γ → D} {n m l : Nat}
theorem Lw.mono (a : Lw f n) (h : n ≤ m) : Lw f m := ⟨a.pl, fun x => Nat.le_trans (a.dep x) h, a.eq⟩
theorem lw_int : Lw D.int 0 := ⟨fun _ => rfl, fun _ => Nat.le_refl _, fun x y => by
  show (x == y) = _
  rw [Bool.eq_iff_iff]; simp⟩
theorem lw_bl : Lw D.bl 0 := ⟨fun _ => rfl, fun _ => Nat.le_refl _, fun x y => by
  show (x == y) = _
  rw [Bool.eq_iff_iff]; simp⟩
theorem lw_str : Lw D.str 0 := ⟨fun _ => rfl, fun _ => Nat.le_refl _, fun x y => by
  show (x == y) = _
  rw [Bool.eq_iff_iff]; simp⟩
/-- rows -/
def eR (t : Bool) (f : α → D) (xs : List α) : D := .sq t (xs.map f)
theorem Lw.eqvAll (a : Lw f n) : ∀ xs ys : List α, PyData.eqvAll (D.pds (xs.map f)) (D.pds (ys.map f)) = decide (xs = ys)
  | [], [] => by simp [D.pds, PyData.eqvAll]
  | [], y :: ys => by simp [D.pds, PyData.eqvAll]
  | x :: xs, [] => by simp [D.pds, PyData.eqvAll]
  | x :: xs, y :: ys => by
    have e1 : PyData.eqv (f x).pd (f y).pd = decide (x = y) := a.eq x y
    simp only [List.map_cons, D.pds, PyData.eqvAll, a.eqvAll xs ys, e1]
    rw [Bool.eq_iff_iff]; simp
theorem Lw.row {t : Bool} (a : Lw f n) : Lw (eR t f) (n + 1) := by
  refine ⟨fun xs => ?_, fun xs => ?_, fun xs ys => ?_⟩
  · show D.pls (xs.map f) = true
    rw [D.pls_all]
    simp only [List.all_map, List.all_eq_true]
    exact fun x _ => a.pl x
  · have : PyData.depthAll (D.pds (xs.map f)) ≤ n := depthAll_le _ fun d hd => by
      rw [D.pds_map, List.map_map] at hd
      obtain ⟨x, _, rfl⟩ := List.mem_map.mp hd
      exact a.dep x
    cases t <;> (show PyData.depthAll (D.pds (xs.map f)) + 1 ≤ n + 1; omega)
  · cases t <;> exact a.eqvAll xs ys
/-- pairs, triples as tuples -/
def eP (f : α → D) (g : β → D) (p : α × β) : D := .sq true [f p.1, g p.2]
def eP3 (f : α → D) (g : β → D) (h : γ → D) (p : α × β × γ) : D := .sq true [f p.1, g p.2.1, h p.2.2]
theorem Lw.pair (a : Lw f n) (b : Lw g n) : Lw (eP f g) (n + 1) := by
  refine ⟨fun p => ?_, fun p => ?_, fun p q => ?_⟩
  · show ((f p.1).pl && ((g p.2).pl && true)) = true
    rw [a.pl, b.pl]; rfl
  · have h1 := a.dep p.1
    have h2 := b.dep p.2
    show max (f p.1).dep (max (g p.2).dep 0) + 1 ≤ n + 1
    omega
  · show ((f p.1).eqv (f q.1) && ((g p.2).eqv (g q.2) && true)) = _
    rw [a.eq, b.eq, Bool.eq_iff_iff]
    simp [Prod.ext_iff]
theorem Lw.triple (a : Lw f n) (b : Lw g n) (c : Lw h n) : Lw (eP3 f g h) (n + 1) := by
  refine ⟨fun p => ?_, fun p => ?_, fun p q => ?_⟩
  · show ((f p.1).pl && ((g p.2.1).pl && ((h p.2.2).pl && true))) = true
    rw [a.pl, b.pl, c.pl]; rfl
  · have h1 := a.dep p.1
    have h2 := b.dep p.2.1
    have h3 := c.dep p.2.2
    show max (f p.1).dep (max (g p.2.1).dep (max (h p.2.2).dep 0)) + 1 ≤ n + 1
    omega
  · show ((f p.1).eqv (f q.1) && ((g p.2.1).eqv (g q.2.1) && ((h p.2.2).eqv (h q.2.2) && true))) = _
    rw [a.eq, b.eq, c.eq, Bool.eq_iff_iff]
    simp [Prod.ext_iff]
/-- None, or something else -/
def eO (f : α → D) : Option α → D
  | none => .non
  | some x => f x
theorem Lw.opt (a : Lw f n) (hn : ∀ x, (f x).eqv .non = false) (hn' : ∀ x, D.non.eqv (f x) = false) : Lw (eO f) n := by
  refine ⟨fun x => ?_, fun x => ?_, fun x y => ?_⟩
  · cases x with
    | none => rfl
    | some x => exact a.pl x
  · cases x with
    | none => exact Nat.zero_le _
    | some x => exact a.dep x
  · cases x with
    | none =>
      cases y with
      | none => show D.eqv .non .non = _; simp [D.eqv, D.pd, PyData.eqv]
      | some y => show D.non.eqv (f y) = _; rw [hn']; simp
    | some x =>
      cases y with
      | none => show (f x).eqv .non = _; rw [hn]; simp
      | some y => show (f x).eqv (f y) = _; rw [a.eq]; simp
end
section
variable {X : Cx} {e a b c : Expr} {σ : L2.St} {F F1 W W1 W2 W3 : Hp} {d d1 d2 d3 : D} {ds : List D} {q q1 q2 : Bool} {pos : Pos} {i j : Int} {k : Nat}
def rPlain (K : PySem.W.Frag) (neg : Bool) : R2 := fun x y H Q => ∃ d e, Dp K H x d ∧ Dp K H y e ∧ d.plain = true ∧ e.plain = true ∧ d.depth ≤ 60 ∧ Q (.bl (if neg then !PyData.eqv d e else PyData.eqv d e)) H
theorem op_eqP (hr : Room k X.A) : OpR X (compareOp .Eq) (rPlain X.K false) := by
  intro pins s σ H x y v u Q I rx ry h
  obtain ⟨d, e, hd, he, sd, se, hz, q⟩ := h
  obtain ⟨as, r1⟩ := Dp.reads I d x v hd rx
  obtain ⟨bs, r2⟩ := Dp.reads I e y u he ry
  have := hr.units
  exact SeqAt.eq_plain r1 r2 sd se (by omega) ⟨.bl _, H, I, rfl, q⟩
theorem op_neP (hr : Room k X.A) : OpR X (compareOp .NotEq) (rPlain X.K true) := by
  intro pins s σ H x y v u Q I rx ry h
  obtain ⟨d, e, hd, he, sd, se, hz, q⟩ := h
  obtain ⟨as, r1⟩ := Dp.reads I d x v hd rx
  obtain ⟨bs, r2⟩ := Dp.reads I e y u he ry
  have := hr.units
  exact SeqAt.ne_plain r1 r2 sd se (by omega) ⟨.bl _, H, I, rfl, q⟩
def rInP (K : PySem.W.Frag) (neg : Bool) : R2 := fun x y H Q => ∃ d es, Dp K H x d ∧ (Dp K H y (.list es) ∨ Dp K H y (.tuple es)) ∧ d.plain = true ∧ PyData.plainAll es = true ∧ d.depth ≤ 60 ∧
  Q (.bl (if neg then !es.any (fun y => PyData.eqv y d) else es.any fun y => PyData.eqv y d)) H
theorem op_inP (hr : Room k X.A) : OpR X (compareOp .In) (rInP X.K false) := by
  intro pins s σ H x y v u Q I rx ry h
  obtain ⟨d, es, hd, he, sd, se, hz, q⟩ := h
  obtain ⟨as, r1⟩ := Dp.reads I d x v hd rx
  have := hr.units
  rcases he with he | he
  · obtain ⟨bs, r2⟩ := Dp.reads I _ y u he ry
    exact SeqAt.in_list_data r2 r1 se sd (by omega) ⟨.bl _, H, I, rfl, q⟩
  · obtain ⟨bs, r2⟩ := Dp.reads I _ y u he ry
    exact SeqAt.in_tuple_data r2 r1 se sd (by omega) ⟨.bl _, H, I, rfl, q⟩
theorem op_niP (hr : Room k X.A) : OpR X (compareOp .NotIn) (rInP X.K true) := by
  intro pins s σ H x y v u Q I rx ry h
  obtain ⟨d, es, hd, he, sd, se, hz, q⟩ := h
  obtain ⟨as, r1⟩ := Dp.reads I d x v hd rx
  have := hr.units
  rcases he with he | he
  · obtain ⟨bs, r2⟩ := Dp.reads I _ y u he ry
    exact SeqAt.notIn_list_data r2 r1 se sd (by omega) ⟨.bl _, H, I, rfl, q⟩
  · obtain ⟨bs, r2⟩ := Dp.reads I _ y u he ry
    exact SeqAt.notIn_tuple_data r2 r1 se sd (by omega) ⟨.bl _, H, I, rfl, q⟩
theorem cm_eqD (hr : Room k X.A) (h1 : d1.pl = true) (h2 : d2.pl = true) (hz : d1.dep ≤ 60) : CmpR X .Eq F W d1 d2 (d1.eqv d2) :=
  ⟨_, op_eqP hr, fun v1 v2 F1 H1 _ r1 r2 w Q k => ⟨_, _, r1.dp w h1, r2.dp w h2, D.pl_plain _ h1, D.pl_plain _ h2, hz, k _ F1 H1 (Go.refl w) (.bl _)⟩⟩
theorem cm_neD (hr : Room k X.A) (h1 : d1.pl = true) (h2 : d2.pl = true) (hz : d1.dep ≤ 60) : CmpR X .NotEq F W d1 d2 (!d1.eqv d2) :=
  ⟨_, op_neP hr, fun v1 v2 F1 H1 _ r1 r2 w Q k => ⟨_, _, r1.dp w h1, r2.dp w h2, D.pl_plain _ h1, D.pl_plain _ h2, hz, k _ F1 H1 (Go.refl w) (.bl _)⟩⟩
theorem cm_inD {t : Bool} (hr : Room k X.A) (h1 : d1.pl = true) (h2 : D.pls ds = true) (hz : d1.dep ≤ 60) : CmpR X .In F W d1 (.sq t ds) (ds.any fun y => y.eqv d1) :=
  ⟨_, op_inP hr, fun v1 v2 F1 H1 _ r1 r2 w Q k => ⟨d1.pd, D.pds ds, r1.dp w h1, by
    cases t with
    | false => exact .inl (r2.dp w h2)
    | true => exact .inr (r2.dp w h2), D.pl_plain _ h1, D.pls_plain _ h2, hz, by
      have e : ((D.pds ds).any fun y => PyData.eqv y d1.pd) = ds.any fun y => y.eqv d1 := by rw [D.pds_map, List.any_map]; rfl
      rw [e]
      exact k _ F1 H1 (Go.refl w) (.bl _)⟩⟩
theorem cm_niD {t : Bool} (hr : Room k X.A) (h1 : d1.pl = true) (h2 : D.pls ds = true) (hz : d1.dep ≤ 60) : CmpR X .NotIn F W d1 (.sq t ds) (!ds.any fun y => y.eqv d1) :=
  ⟨_, op_niP hr, fun v1 v2 F1 H1 _ r1 r2 w Q k => ⟨d1.pd, D.pds ds, r1.dp w h1, by
    cases t with
    | false => exact .inl (r2.dp w h2)
    | true => exact .inr (r2.dp w h2), D.pl_plain _ h1, D.pls_plain _ h2, hz, by
      have e : ((D.pds ds).any fun y => PyData.eqv y d1.pd) = ds.any fun y => y.eqv d1 := by rw [D.pds_map, List.any_map]; rfl
      rw [e]
      exact k _ F1 H1 (Go.refl w) (.bl _)⟩⟩
section
variable {α : Type} [DecidableEq α] {f : α → D} {n : Nat} {x y : α} {xs : List α} {t : Bool}
theorem cm_eq (hr : Room k X.A) (l : Lw f n) (hn : n ≤ 60 := by decide) : CmpR X .Eq F W (f x) (f y) (decide (x = y)) := (cm_eqD hr (l.pl x) (l.pl y) (Nat.le_trans (l.dep x) hn)).is (l.eq x y)
theorem cm_ne (hr : Room k X.A) (l : Lw f n) (hn : n ≤ 60 := by decide) : CmpR X .NotEq F W (f x) (f y) (!decide (x = y)) := (cm_neD hr (l.pl x) (l.pl y) (Nat.le_trans (l.dep x) hn)).is (congrArg not (l.eq x y))
theorem Lw.any (l : Lw f n) : ((xs.map f).any fun y => y.eqv (f x)) = decide (x ∈ xs) := by
  rw [List.any_map, Bool.eq_iff_iff, List.any_eq_true, decide_eq_true_iff]
  constructor
  · rintro ⟨y, hy, e⟩
    have e : (f y).eqv (f x) = true := e
    rw [l.eq, decide_eq_true_iff] at e
    exact e ▸ hy
  · exact fun h => ⟨x, h, by show (f x).eqv (f x) = true; rw [l.eq]; simp⟩
theorem Lw.pls (l : Lw f n) : D.pls (xs.map f) = true := by
  rw [D.pls_all]
  simp only [List.all_map, List.all_eq_true]
  exact fun x _ => l.pl x
theorem cm_in (hr : Room k X.A) (l : Lw f n) (hn : n ≤ 60 := by decide) : CmpR X .In F W (f x) (eR t f xs) (decide (x ∈ xs)) := (cm_inD hr (l.pl x) l.pls (Nat.le_trans (l.dep x) hn)).is l.any
theorem cm_ni (hr : Room k X.A) (l : Lw f n) (hn : n ≤ 60 := by decide) : CmpR X .NotIn F W (f x) (eR t f xs) (!decide (x ∈ xs)) := (cm_niD hr (l.pl x) l.pls (Nat.le_trans (l.dep x) hn)).is (congrArg not l.any)
end

/-! ### and, or, not, if -/
theorem et_not (ha : EvT X a σ F W q W1) : EvT X (.UnaryOp .Not a pos) σ F W (!q) W1 := fun H w Q k => tmT_of (pt_not pt_tm) (ha H w _ fun F' H' g => k F' H' g)
theorem ew_and1 (ha : EvT X a σ F W q W1) : EvW X (.BoolOp .And [a] pos) σ F W q W1 := fun H w Q k => tmW_of (pw_and1 pt_tm) (ha H w _ fun F' H' g => k F' H' g)
theorem ew_or1 (ha : EvT X a σ F W q W1) : EvW X (.BoolOp .Or [a] pos) σ F W q W1 := fun H w Q k => tmW_of (pw_or1 pt_tm) (ha H w _ fun F' H' g => k F' H' g)
theorem ew_and {es : List Expr} (ha : EvT X a σ F W q1 W1) (hb : q1 = true → EvW X (.BoolOp .And (b :: es) pos) σ F W1 q2 W1) : EvW X (.BoolOp .And (a :: b :: es) pos) σ F W (q1 && q2) W1 := fun H w Q k =>
  tmW_of (pw_and pt_tm pw_tm) (ha H w _ fun F' H' g => by
    cases q1 with
    | true => rw [if_pos rfl]; exact ((hb rfl).mono g.ex) H' g.st _ fun F2 H2 g2 => k F2 H2 (g.trans g2)
    | false => rw [if_neg Bool.false_ne_true]; exact k F' H' g)
theorem ew_or {es : List Expr} (ha : EvT X a σ F W q1 W1) (hb : q1 = false → EvW X (.BoolOp .Or (b :: es) pos) σ F W1 q2 W1) : EvW X (.BoolOp .Or (a :: b :: es) pos) σ F W (q1 || q2) W1 := fun H w Q k =>
  tmW_of (pw_or pt_tm pw_tm) (ha H w _ fun F' H' g => by
    cases q1 with
    | true => rw [if_pos rfl]; exact k F' H' g
    | false => rw [if_neg Bool.false_ne_true]; exact ((hb rfl).mono g.ex) H' g.st _ fun F2 H2 g2 => k F2 H2 (g.trans g2))
theorem et_w (h : EvW X e σ F W q W1) : EvT X e σ F W q W1 := fun H w Q k => tmT_of pw_tm.pt (h H w Q k)
theorem ev_not (ha : EvS X a σ F W (.bl q) W1) : EvS X (.UnaryOp .Not a pos) σ F W (.bl (!q)) W1 := fun H w Q k => tm_of (pe_not pe_tm) (ha H w _ fun v F' H' g r => by
  cases r; exact ⟨q, rfl, k _ F' H' g (.bl _)⟩)
theorem ev_bop1 {op : BoolOp} (ha : EvS X a σ F W d W1) : EvS X (.BoolOp op [a] pos) σ F W d W1 := fun H w Q k => tm_of (pe_one pe_tm) (ha H w Q k)
theorem ev_and {es : List Expr} (ha : EvS X a σ F W (.bl q1) W1) (hb : q1 = true → EvS X (.BoolOp .And (b :: es) pos) σ F W1 (.bl q2) W1) : EvS X (.BoolOp .And (a :: b :: es) pos) σ F W (.bl (q1 && q2)) W1 := fun H w Q k =>
  tm_of (pe_and pe_tm pe_tm) (ha H w _ fun v F' H' g r => by
    cases r
    refine ⟨q1, rfl, ?_⟩
    cases q1 with
    | true => rw [if_pos rfl]; exact ((hb rfl).mono g.ex).then g fun v F2 H2 _ g2 r2 => k v F2 H2 g2 r2
    | false => rw [if_neg Bool.false_ne_true]; exact k _ F' H' g (.bl _))
theorem ev_or {es : List Expr} (ha : EvS X a σ F W (.bl q1) W1) (hb : q1 = false → EvS X (.BoolOp .Or (b :: es) pos) σ F W1 (.bl q2) W1) : EvS X (.BoolOp .Or (a :: b :: es) pos) σ F W (.bl (q1 || q2)) W1 := fun H w Q k =>
  tm_of (pe_or pe_tm pe_tm) (ha H w _ fun v F' H' g r => by
    cases r
    refine ⟨q1, rfl, ?_⟩
    cases q1 with
    | true => rw [if_pos rfl]; exact k _ F' H' g (.bl _)
    | false => rw [if_neg Bool.false_ne_true]; exact ((hb rfl).mono g.ex).then g fun v F2 H2 _ g2 r2 => k v F2 H2 g2 r2)
/-- both ways of one sort -/
theorem ev_if {α : Type} {f : α → D} {x y : α} (hc : EvT X c σ F W q W1) (ha : q = true → EvS X a σ F W1 (f x) W1) (hb : q = false → EvS X b σ F W1 (f y) W1) : EvS X (.IfExp c a b pos) σ F W (f (if q = true then x else y)) W1 := fun H w Q k =>
  tm_of (pe_ifExp pt_tm pe_tm pe_tm) (hc H w _ fun F' H' g => by
    cases q with
    | true => rw [if_pos rfl]; exact ((ha rfl).mono g.ex).then g fun v F2 H2 _ g2 r2 => k v F2 H2 g2 (by rw [if_pos rfl]; exact r2)
    | false => rw [if_neg Bool.false_ne_true]; exact ((hb rfl).mono g.ex).then g fun v F2 H2 _ g2 r2 => k v F2 H2 g2 (by rw [if_neg Bool.false_ne_true]; exact r2))
/-- with draws within: the world behind is told by the way -/
theorem ev_ifW {Wa Wb : Hp} {α : Type} {f : α → D} {x y : α} (hc : EvT X c σ F W q W1) (ha : q = true → EvS X a σ F W1 (f x) Wa) (hb : q = false → EvS X b σ F W1 (f y) Wb) : EvS X (.IfExp c a b pos) σ F W (f (if q = true then x else y)) (if q = true then Wa else Wb) := fun H w Q k =>
  tm_of (pe_ifExp pt_tm pe_tm pe_tm) (hc H w _ fun F' H' g => by
    cases q with
    | true => rw [if_pos rfl]; exact ((ha rfl).mono g.ex).then g fun v F2 H2 _ g2 r2 => k v F2 H2 g2 (by rw [if_pos rfl]; exact r2)
    | false => rw [if_neg Bool.false_ne_true]; exact ((hb rfl).mono g.ex).then g fun v F2 H2 _ g2 r2 => k v F2 H2 g2 (by rw [if_neg Bool.false_ne_true]; exact r2))
end
end Z
set_option Elab.async false
set_option linter.all false
set_option maxRecDepth 100000
set_option maxHeartbeats 1000000
namespace Z
open PySem PySem.Spec PyProof.Rows L2
section
variable {X : Cx} {e a b c : Expr} {es : List Expr} {σ : L2.St} {F F1 W W1 W2 W3 : Hp} {d d1 d2 d3 : D} {ds : List D} {q q1 q2 : Bool} {pos p : Pos} {i j : Int} {k : Nat}
/-! ### arguments, displays -/
theorem ea_nil : EvA X [] σ F W [] W := fun H w Q q => tmA_of pa_nil (q _ F H (Go.refl w) .nil)
theorem ea_cons (ha : EvS X e σ F W d W1) (hr : EvA X es σ F W1 ds W2) (hs : starEach (e :: es) X.env = (false, eval e X.env) :: starEach es X.env := by rfl) : EvA X (e :: es) σ F W (d :: ds) W2 := fun H w Q q =>
  tmA_of (pa_cons pe_tm pa_tm hs) (ha H w _ fun v F1 H1 g r => hr.mono g.ex H1 g.st _ fun vs F2 H2 g2 r2 => q (v :: vs) F2 H2 (g.trans g2) (.cons (r.mono g2.ex) r2))
theorem ea_star {t : Bool} {d1 : List D} (ha : EvS X e σ F W (.sq t d1) W1) (hr : EvA X es σ F W1 ds W2) (hs : starEach (.Starred e p :: es) X.env = (true, eval e X.env) :: starEach es X.env := by rfl) : EvA X (.Starred e p :: es) σ F W (d1 ++ ds) W2 := fun H w Q q =>
  tmA_of (StX.pa_star pe_tm pa_tm hs) (ha H w _ fun v F1 H1 g r => by
    obtain ⟨l, vs, rfl, h1, s1, z1⟩ := r.sq_inv
    refine ⟨l, vs, rfl, (g.st.seq h1).symm, hr.mono g.ex H1 g.st _ fun ws F2 H2 g2 r2 => q (vs ++ ws) F2 H2 (g.trans g2) ((s1.mono g2.ex).append r2)⟩)
theorem ev_tup {x1} (h : EvA X es σ F W ds W1) (hz : ds.length ≤ 100000) : EvS X (.Tuple es x1 pos) σ F W (.sq true ds) W1 := fun H w Q q =>
  tm_of (pe_tup pa_tm) (h H w _ fun vs F1 H1 g r => ⟨by rw [r.length]; exact sz_ok hz, fun p hp => q _ _ _ (g.trans (Go.new g.st hp)) (Go.rep_new (t := true) g.st hp r hz)⟩)
theorem ev_lst (h : EvA X es σ F W ds W1) (hz : ds.length ≤ 100000) : EvS X (.List es pos) σ F W (.sq false ds) W1 := fun H w Q q =>
  tm_of (pe_lst pa_tm) (h H w _ fun vs F1 H1 g r => ⟨by rw [r.length]; exact sz_ok hz, fun p hp => q _ _ _ (g.trans (Go.new g.st hp)) (Go.rep_new (t := false) g.st hp r hz)⟩)

/-! ### built-ins called -/
structure CalR (X : Cx) (f : Value) (F W : Hp) (ds : List D) (d : D) : Prop where
  ex : ∃ r, CallR X f r ∧ ∀ vs F1 H1, Same F F1 → Reps F1 vs ds → Wd F1 W H1 → ∀ Q : VK, (∀ v F' H', Go F1 W H1 F' W H' → Rep F' v d → Q v H') → r vs H1 Q
theorem ev_blt {x : Str} {id : String} (hm : X.mg x = none) (hc : CalR X (.builtin id) F W1 ds d) (ha : EvA X (e :: es) σ F W ds W1) (hv : bootBuiltins x = some (.builtin id)) (hg : Gl X x := by rfl) (hn : x ≠ "__name__" := by decide) (hdb : (x == ("__debug__" : Str)) = false := by decide)
    (he : starEach (e :: es) X.env = (false, eval e X.env) :: starEach es X.env := by rfl) (hpl : (backTo pos (starEach es X.env)).any (·.1) = false := by rfl) : EvS X (.Call (.Name x p) (e :: es) [] pos) σ F W d W1 := fun H w Q q => by
  obtain ⟨r, hr, h⟩ := hc.ex
  exact tm_of (pe_callB hr hg hm hv pa_tm hn hdb he hpl) (ha H w _ fun vs F1 H1 g s => h vs F1 H1 g.ex s g.st Q fun v F' H' g2 r2 => q v F' H' (g.trans g2) r2)
theorem ev_bty {x : Str} {T : String} (hm : X.mg x = none) (hc : CalR X (.type T) F W1 ds d) (ha : EvA X (e :: es) σ F W ds W1) (hv : bootBuiltins x = some (.type T)) (hg : Gl X x := by rfl) (hn : x ≠ "__name__" := by decide) (hdb : (x == ("__debug__" : Str)) = false := by decide)
    (he : starEach (e :: es) X.env = (false, eval e X.env) :: starEach es X.env := by rfl) (hpl : (backTo pos (starEach es X.env)).any (·.1) = false := by rfl) : EvS X (.Call (.Name x p) (e :: es) [] pos) σ F W d W1 := fun H w Q q => by
  obtain ⟨r, hr, h⟩ := hc.ex
  exact tm_of (pe_callTy hr hg hm hv pa_tm hn hdb he hpl) (ha H w _ fun vs F1 H1 g s => h vs F1 H1 g.ex s g.st Q fun v F' H' g2 r2 => q v F' H' (g.trans g2) r2)
theorem CalR.is {f : Value} (h : CalR X f F W ds d) (e : d = d1) : CalR X f F W ds d1 := by rw [← e]; exact h
theorem cl_len {t : Bool} {xs : List D} : CalR X (.builtin "len") F W [.sq t xs] (.int xs.length) := ⟨_, call_len_seq, fun vs F1 H1 _ r w Q q => by
  cases r with
  | cons r t =>
    cases t
    obtain ⟨l, us, rfl, h1, s1, z1⟩ := r.sq_inv
    exact ⟨l, us, rfl, w.seq h1, by rw [s1.length]; exact q _ F1 H1 (Go.refl w) (.int _)⟩⟩
theorem cl_lenS {s : Str} (hs : s.length ≤ sizeLine) : CalR X (.builtin "len") F W [.str s] (.int s.length) := ⟨_, call_len_str, fun vs F1 H1 _ r w Q q => by
  cases r with
  | cons r t =>
    cases t
    cases r
    exact ⟨s, rfl, hs, q _ F1 H1 (Go.refl w) (.int _)⟩⟩
theorem cl_int : CalR X (.type "int") F W [.int i] (.int i) := ⟨_, call_int1, fun vs F1 H1 _ r w Q q => by
  cases r with
  | cons r t =>
    cases t
    cases r
    exact .inl ⟨i, rfl, q _ F1 H1 (Go.refl w) (.int _)⟩⟩
theorem cl_bool : CalR X (.type "bool") F W [.bl q] (.bl q) := ⟨_, call_bool1, fun vs F1 H1 _ r w Q k => by
  cases r with
  | cons r t =>
    cases t
    cases r
    exact .inr ⟨q, rfl, k _ F1 H1 (Go.refl w) (.bl _)⟩⟩
theorem cl_list {t : Bool} {xs : List D} : CalR X (.type "list") F W [.sq t xs] (.sq false xs) := ⟨_, call_list_of, fun vs F1 H1 _ r w Q q => by
  cases r with
  | cons r t =>
    cases t
    obtain ⟨l, us, rfl, h1, s1, z1⟩ := r.sq_inv
    exact ⟨l, us, rfl, w.seq h1, fun p hp => q _ _ _ (Go.new w hp) (Go.rep_new (t := false) w hp s1 z1)⟩⟩
theorem cl_tuple {t : Bool} {xs : List D} : CalR X (.type "tuple") F W [.sq t xs] (.sq true xs) := ⟨_, call_tuple_of, fun vs F1 H1 _ r w Q q => by
  cases r with
  | cons r t =>
    cases t
    cases t with
    | false =>
      obtain ⟨l, us, rfl, h1, s1, z1⟩ := r.lst_inv
      exact ⟨l, us, rfl, .inl ⟨SqL.of (w.lst h1), fun p hp => q _ _ _ (Go.new w hp) (Go.rep_new (t := true) w hp s1 z1)⟩⟩
    | true =>
      obtain ⟨l, us, rfl, h1, s1, z1⟩ := id r.tup_inv
      exact ⟨l, us, rfl, .inr ⟨SqT.of (w.tup h1), q _ _ _ (Go.refl w) r⟩⟩⟩
theorem rep_ints {t : Bool} {v : V} {ns : List Int} (r : Rep F v (eR t D.int ns)) : ∃ a, v = .ref a ∧ F a = some (sqO t (ns.map V.int)) ∧ ns.length ≤ 100000 := by
  obtain ⟨l, us, rfl, h1, s1, z1⟩ := r.sq_inv
  rw [s1.ints] at h1
  exact ⟨l, rfl, h1, by simpa using z1⟩
theorem cl_sum {ns : List Int} (hc : X.calm = true := by rfl) : CalR X (.builtin "sum") F W [eR false D.int ns] (.int ns.sum) := ⟨_, cr_sum hc, fun vs F1 H1 _ r w Q q => by
  cases r with
  | cons r t =>
    cases t
    obtain ⟨l, rfl, h1, z⟩ := rep_ints r
    exact ⟨l, ns, rfl, SqL.of (w.lst h1), q _ F1 H1 (Go.refl w) (.int _)⟩⟩
/-- the greatest, the least -/
def maxL (ns : List Int) : Int := ns.tail.foldl (fun a b => if b > a then b else a) (ns.headD 0)
def minL (ns : List Int) : Int := ns.tail.foldl (fun a b => if b < a then b else a) (ns.headD 0)
theorem maxL_of {ns : List Int} {m : Int} (hm : m ∈ ns) (hle : ∀ y ∈ ns, y ≤ m) : maxL ns = m := by
  have key : ∀ (l : List Int) (a : Int), (a = m ∨ m ∈ l) → a ≤ m → (∀ y ∈ l, y ≤ m) → l.foldl (fun a b => if b > a then b else a) a = m := by
    intro l
    induction l with
    | nil => intro a h _ _; rcases h with h | h; exact h; cases h
    | cons x l ih =>
      intro a h ha hl
      rw [List.foldl_cons]
      have hx := hl x List.mem_cons_self
      refine ih _ ?_ ?_ fun y hy => hl y (List.mem_cons_of_mem _ hy)
      · by_cases hxa : x > a
        · rw [if_pos hxa]
          rcases h with h | h
          · omega
          · rcases List.mem_cons.mp h with e | e
            · exact .inl e.symm
            · exact .inr e
        · rw [if_neg hxa]
          rcases h with h | h
          · exact .inl h
          · rcases List.mem_cons.mp h with e | e
            · left; omega
            · exact .inr e
      · by_cases hxa : x > a
        · rw [if_pos hxa]; exact hx
        · rw [if_neg hxa]; exact ha
  cases ns with
  | nil => cases hm
  | cons x l =>
    refine key l x ?_ (hle x List.mem_cons_self) fun y hy => hle y (List.mem_cons_of_mem _ hy)
    rcases List.mem_cons.mp hm with e | e
    · exact .inl e.symm
    · exact .inr e
theorem minL_of {ns : List Int} {m : Int} (hm : m ∈ ns) (hle : ∀ y ∈ ns, m ≤ y) : minL ns = m := by
  have key : ∀ (l : List Int) (a : Int), (a = m ∨ m ∈ l) → m ≤ a → (∀ y ∈ l, m ≤ y) → l.foldl (fun a b => if b < a then b else a) a = m := by
    intro l
    induction l with
    | nil => intro a h _ _; rcases h with h | h; exact h; cases h
    | cons x l ih =>
      intro a h ha hl
      rw [List.foldl_cons]
      have hx := hl x List.mem_cons_self
      refine ih _ ?_ ?_ fun y hy => hl y (List.mem_cons_of_mem _ hy)
      · by_cases hxa : x < a
        · rw [if_pos hxa]
          rcases h with h | h
          · omega
          · rcases List.mem_cons.mp h with e | e
            · exact .inl e.symm
            · exact .inr e
        · rw [if_neg hxa]
          rcases h with h | h
          · exact .inl h
          · rcases List.mem_cons.mp h with e | e
            · left; omega
            · exact .inr e
      · by_cases hxa : x < a
        · rw [if_pos hxa]; exact hx
        · rw [if_neg hxa]; exact ha
  cases ns with
  | nil => cases hm
  | cons x l =>
    refine key l x ?_ (hle x List.mem_cons_self) fun y hy => hle y (List.mem_cons_of_mem _ hy)
    rcases List.mem_cons.mp hm with e | e
    · exact .inl e.symm
    · exact .inr e
theorem cl_max {ns : List Int} (h0 : ns ≠ []) (hc : X.calm = true := by rfl) : CalR X (.builtin "max") F W [eR false D.int ns] (.int (maxL ns)) := ⟨_, cr_max hc, fun vs F1 H1 _ r w Q q => by
  cases r with
  | cons r t =>
    cases t
    obtain ⟨l, rfl, h1, z⟩ := rep_ints r
    exact ⟨l, ns, rfl, SqL.of (w.lst h1), List.length_pos_iff.mpr h0, fun m hm hle => by rw [← maxL_of hm hle]; exact q _ F1 H1 (Go.refl w) (.int _)⟩⟩
theorem cl_min {ns : List Int} (h0 : ns ≠ []) (hc : X.calm = true := by rfl) : CalR X (.builtin "min") F W [eR false D.int ns] (.int (minL ns)) := ⟨_, cr_min hc, fun vs F1 H1 _ r w Q q => by
  cases r with
  | cons r t =>
    cases t
    obtain ⟨l, rfl, h1, z⟩ := rep_ints r
    exact ⟨l, ns, rfl, SqL.of (w.lst h1), List.length_pos_iff.mpr h0, fun m hm hle => by rw [← minL_of hm hle]; exact q _ F1 H1 (Go.refl w) (.int _)⟩⟩
theorem cl_max2 (hc : X.calm = true := by rfl) : CalR X (.builtin "max") F W [.int i, .int j] (.int (if j > i then j else i)) := ⟨_, call_max2 hc, fun vs F1 H1 _ r w Q q => by
  cases r with
  | cons r t =>
    cases t with
    | cons r2 t =>
      cases t; cases r; cases r2
      exact ⟨i, j, rfl, q _ F1 H1 (Go.refl w) (.int _)⟩⟩
theorem cl_min2 (hc : X.calm = true := by rfl) : CalR X (.builtin "min") F W [.int i, .int j] (.int (if j < i then j else i)) := ⟨_, call_min2 hc, fun vs F1 H1 _ r w Q q => by
  cases r with
  | cons r t =>
    cases t with
    | cons r2 t =>
      cases t; cases r; cases r2
      exact ⟨i, j, rfl, q _ F1 H1 (Go.refl w) (.int _)⟩⟩
theorem rep_bls {t : Bool} {v : V} {ns : List Bool} (r : Rep F v (eR t D.bl ns)) : ∃ a, v = .ref a ∧ F a = some (sqO t (ns.map V.bl)) ∧ ns.length ≤ 100000 := by
  obtain ⟨l, us, rfl, h1, s1, z1⟩ := r.sq_inv
  rw [s1.bls] at h1
  exact ⟨l, rfl, h1, by simpa using z1⟩
theorem cl_all {ns : List Bool} (hc : X.calm = true := by rfl) : CalR X (.builtin "all") F W [eR false D.bl ns] (.bl (ns.all id)) := ⟨_, cr_all hc, fun vs F1 H1 _ r w Q q => by
  cases r with
  | cons r t =>
    cases t
    obtain ⟨l, rfl, h1, z⟩ := rep_bls r
    exact ⟨l, ns, rfl, SqL.of (w.lst h1), q _ F1 H1 (Go.refl w) (.bl _)⟩⟩
theorem cl_any {ns : List Bool} (hc : X.calm = true := by rfl) : CalR X (.builtin "any") F W [eR false D.bl ns] (.bl (ns.any id)) := ⟨_, cr_any hc, fun vs F1 H1 _ r w Q q => by
  cases r with
  | cons r t =>
    cases t
    obtain ⟨l, rfl, h1, z⟩ := rep_bls r
    exact ⟨l, ns, rfl, SqL.of (w.lst h1), q _ F1 H1 (Go.refl w) (.bl _)⟩⟩

/-! ### isinstance -/
def D.ty : D → Option String
  | .non => some "NoneType"
  | .bl _ => some "bool"
  | .int _ => some "int"
  | .str _ => some "str"
  | .sq false _ => some "list"
  | .sq true _ => some "tuple"
  | .dk _ => some "dict"
  | .ob _ _ => none
  | .ow _ => none
  | .fz _ _ => none
theorem Rep.tyx {K : PySem.W.Frag} {H : Hp} {v : V} {T : String} (w : Wd F W H) (r : Rep F v d) (h : d.ty = some T) : TyX K H v (.type T) := by
  cases r with
  | non => cases h; exact .base .non
  | bl b => cases h; exact .base (.bl b)
  | int i => cases h; exact .base (.int i)
  | str s => cases h; exact .base (.str s)
  | @sq a t vs ds q s z =>
    cases t with
    | false => cases h; exact .base (.lst (w.lst q))
    | true => cases h; exact .base (.tup (w.tup q))
  | dk q s z =>
    cases h
    rcases w.rdK q with q | ⟨o, q⟩
    · exact .base (.dK q)
    · exact .fDict q
  | ob q s => cases h
  | ow a => cases h
  | fz q s z => cases h
theorem ev_isi {T U : String} {y : Str} {p2 : Pos} (hm : X.mg "isinstance" = none) (hm2 : X.mg y = none) (ha : EvS X e σ F W d W1) (hd : d.ty = some T) (hk : kitB T U = some q) (hv2 : bootBuiltins y = some (.type U)) (hg : Gl X "isinstance" := by rfl) (hg2 : Gl X y := by rfl)
    (hn : y ≠ "__name__" := by decide) (hdb : (y == ("__debug__" : Str)) = false := by decide) (he : starEach [e, .Name y p2] X.env = (false, eval e X.env) :: starEach [.Name y p2] X.env := by rfl) (hpl : (backTo pos (starEach [.Name y p2] X.env)).any (·.1) = false := by rfl) :
    EvS X (.Call (.Name "isinstance" p) [e, .Name y p2] [] pos) σ F W (.bl q) W1 := fun H w Q k =>
  tm_of (pe_callB call_isi hg hm (by decide +kernel) (pa_cons pe_tm (pa_cons (pe_bltn (v := .ty U) hg2 hm2 hv2 rfl hn hdb) pa_nil) he) (by decide) (by decide) he hpl) (ha H w _ fun v F1 H1 g r =>
    ⟨v, .ty U, .type T, .type U, q, rfl, .ty U, r.tyx g.st hd, kit_ty hk, k _ F1 H1 g (.bl _)⟩)
theorem ev_isi2 {T U U2 : String} {y y2 : Str} {p2 p3 : Pos} {k3 p4} {q q2 : Bool} (hm : X.mg "isinstance" = none) (hm2 : X.mg y = none) (hm3 : X.mg y2 = none) (ha : EvS X e σ F W d W1) (hd : d.ty = some T) (hk : kitB T U = some q) (hk2 : kitB T U2 = some q2) (hv2 : bootBuiltins y = some (.type U)) (hv3 : bootBuiltins y2 = some (.type U2)) (hg : Gl X "isinstance" := by rfl) (hg2 : Gl X y := by rfl) (hg3 : Gl X y2 := by rfl)
    (hn : y ≠ "__name__" := by decide) (hdb : (y == ("__debug__" : Str)) = false := by decide) (hn2 : y2 ≠ "__name__" := by decide) (hdb2 : (y2 == ("__debug__" : Str)) = false := by decide) (he : starEach [e, .Tuple [.Name y p2, .Name y2 p3] k3 p4] X.env = (false, eval e X.env) :: starEach [.Tuple [.Name y p2, .Name y2 p3] k3 p4] X.env := by rfl) (hpl : (backTo pos (starEach [.Tuple [.Name y p2, .Name y2 p3] k3 p4] X.env)).any (·.1) = false := by rfl) :
    EvS X (.Call (.Name "isinstance" p) [e, .Tuple [.Name y p2, .Name y2 p3] k3 p4] [] pos) σ F W (.bl (q || q2)) W1 := fun H w Q k =>
  tm_of (pe_callB call_isiT hg hm (by decide +kernel) (pa_cons pe_tm (pa_cons (pe_tup (pa_cons (pe_bltn (v := .ty U) hg2 hm2 hv2 rfl hn hdb) (pa_cons (pe_bltn (v := .ty U2) hg3 hm3 hv3 rfl hn2 hdb2) pa_nil))) pa_nil) he) (by decide) (by decide) he hpl) (ha H w _ fun v F1 H1 g r =>
    ⟨by show 2 ≤ sizeLine; decide, fun t ht => ⟨v, t, [.ty U, .ty U2], .type T, [.type U, .type U2], q || q2, rfl, upd_same, .cons (.ty U) (.cons (.ty U2) .nil), (r.mono (Go.new (o := .tup [.ty U, .ty U2]) g.st ht).ex).tyx (Go.new g.st ht).st hd, by
      refine kitAny_cons (kit_ty hk) (fun h => ?_) (fun h => by rw [h]; rfl)
      subst h
      refine kitAny_cons (kit_ty hk2) (fun h => ?_) (fun h => by rw [h]; rfl)
      subst h
      exact kitAny_nil, k _ _ _ (g.trans (Go.new g.st ht)) (.bl _)⟩⟩)

/-! ### subscripts -/
theorem atI_rep {F : Hp} {vs : List V} {ds : List D} {i : Int} {d : D} (r : Reps F vs ds) (h : atI ds i = some d) : ∃ v, atI vs i = some v ∧ Rep F v d := by
  unfold atI at h ⊢
  rw [r.length]
  cases e : ixN ds.length i with
  | none => rw [e] at h; cases h
  | some j =>
    rw [e] at h
    exact r.get' h
theorem atI_map {α β : Type} {f : α → β} {xs : List α} {i : Int} {x : α} (h : atI xs i = some x) : atI (xs.map f) i = some (f x) := by
  unfold atI at h ⊢
  rw [List.length_map]
  cases e : ixN xs.length i with
  | none => rw [e] at h; cases h
  | some j =>
    rw [e] at h
    show (xs.map f)[j]? = some (f x)
    have h : xs[j]? = some x := h
    rw [List.getElem?_map, h]; rfl
theorem ixR_sq {t : Bool} : IxR X (fun x y H Q => ∃ p vs i v, x = .ref p ∧ y = .int i ∧ (match t with | true => SqT X.K H p vs | false => SqL X.K H p vs) ∧ atI vs i = some v ∧ Q v H) := by
  cases t with
  | true => exact ix_tup
  | false => exact ix_list
theorem ev_ixD {t : Bool} {xs : List D} (ha : EvS X a σ F W (.sq t xs) W1) (hb : EvS X b σ F W1 (.int i) W2) (hx : atI xs i = some d) (hs : ∀ v i, subscripted b false v i = operate [v, i] (getItem v i) := by intro _ _; rfl) : EvS X (.Subscript a b pos) σ F W d W2 := fun H w Q q =>
  tm_of (pe_ix (ixR_sq (t := t)) pe_tm pe_tm hs) (ha H w _ fun v F1 H1 g r => (hb.mono g.ex).then g fun v2 F2 H2 g2 g02 r2 => by
    obtain ⟨l, us, rfl, h1, s1, z1⟩ := (r.mono g2.ex).sq_inv
    cases r2
    obtain ⟨v, hv, rv⟩ := atI_rep s1 hx
    refine ⟨l, us, i, v, rfl, rfl, ?_, hv, q v F2 H2 g02 rv⟩
    cases t with
    | true => exact SqT.of (g02.st.tup h1)
    | false => exact SqL.of (g02.st.lst h1))
theorem ev_ix {α : Type} {f : α → D} {xs : List α} {t : Bool} {x : α} (ha : EvS X a σ F W (eR t f xs) W1) (hb : EvS X b σ F W1 (.int i) W2) (hx : atI xs i = some x) (hs : ∀ v i, subscripted b false v i = operate [v, i] (getItem v i) := by intro _ _; rfl) : EvS X (.Subscript a b pos) σ F W (f x) W2 :=
  ev_ixD ha hb (atI_map hx) hs

/-! ### slices -/
def cutL {α : Type} (xs : List α) (lo hi : Option Int) : List α := (xs.drop (HT.sIx xs.length 0 lo)).take (HT.sIx xs.length xs.length hi - HT.sIx xs.length 0 lo)
theorem Reps.cut {F : Hp} {vs : List V} {ds : List D} (r : Reps F vs ds) (lo hi : Option Int) : Reps F (cutV vs lo hi) (cutL ds lo hi) := by
  unfold cutV cutL
  rw [r.length]
  exact (r.drop _).take _
theorem cutL_map {α β : Type} (f : α → β) (xs : List α) (lo hi : Option Int) : cutL (xs.map f) lo hi = (cutL xs lo hi).map f := by
  unfold cutL
  rw [List.length_map, List.map_take, List.map_drop]
theorem cutL_len {α : Type} (xs : List α) (lo hi : Option Int) : (cutL xs lo hi).length ≤ xs.length := by
  unfold cutL
  rw [List.length_take, List.length_drop]; omega
def tmO (X : Cx) (o : Option Expr) : TO := match o with
  | none => tNoPart
  | some e => tPart (tmE X e)
theorem po_tm {o : Option Expr} : PO X o (tmO X o) := match o with
  | none => po_none
  | some e => po_some pe_tm
def EvO (X : Cx) (o : Option Expr) (σ : L2.St) (F W : Hp) (r : Option Int) (W' : Hp) : Prop := match o, r with
  | none, none => W' = W
  | some e, some i => EvS X e σ F W (.int i) W'
  | _, _ => False
theorem EvO.run {o : Option Expr} {r : Option Int} {H F0 W0 H0 : Hp} {Q : Option Int → Hp → Prop} (h : EvO X o σ F W r W1) (ex : Same F F1) (w : Wd F1 W H) (q : ∀ F' H', Go F1 W H F' W1 H' → Q r H') : tmO X o σ H Q := by
  cases o with
  | none =>
    cases r with
    | none => have h : W1 = W := h; subst h; exact q F1 H (Go.refl w)
    | some i => exact False.elim h
  | some e =>
    cases r with
    | none => exact False.elim h
    | some i =>
      have h : EvS X e σ F W (.int i) W1 := h
      exact h.mono ex H w _ fun v F' H' g r => by cases r; exact ⟨i, rfl, q F' H' g⟩
theorem eo_none : EvO X none σ F W none W := rfl
theorem eo_some (h : EvS X e σ F W (.int i) W1) : EvO X (some e) σ F W (some i) W1 := h
theorem ev_sl {α : Type} {f : α → D} {xs : List α} {t : Bool} {lo hi : Option Expr} {l u : Option Int} {p2 : Pos} (ha : EvS X a σ F W (eR t f xs) W1) (hl : EvO X lo σ F W1 l W2) (hh : EvO X hi σ F W2 u W3) : EvS X (.Subscript a (.Slice lo hi none p2) pos) σ F W (eR t f (cutL xs l u)) W3 := fun H w Q q => by
  cases t with
  | false =>
    refine tm_of (pe_slice sl_list pe_tm po_tm po_tm) (ha H w _ fun v F1 H1 g r => hl.run (F0 := F) (W0 := W) (H0 := H) g.ex g.st fun F2 H2 g2 => hh.run (F0 := F) (W0 := W) (H0 := H) (g.trans g2).ex g2.st fun F3 H3 g3 => ?_)
    obtain ⟨l, us, rfl, h1, s1, z1⟩ := (r.mono (g2.trans g3).ex).lst_inv
    refine ⟨l, us, rfl, SqL.of (g3.st.lst h1), fun p hp => q _ _ _ ((g.trans (g2.trans g3)).trans (Go.new g3.st hp)) ?_⟩
    unfold eR
    rw [← cutL_map]
    exact Go.rep_new (t := false) g3.st hp (s1.cut _ _) (Nat.le_trans (cutL_len _ _ _) z1)
  | true =>
    refine tm_of (pe_slice sl_tupA pe_tm po_tm po_tm) (ha H w _ fun v F1 H1 g r => hl.run (F0 := F) (W0 := W) (H0 := H) g.ex g.st fun F2 H2 g2 => hh.run (F0 := F) (W0 := W) (H0 := H) (g.trans g2).ex g2.st fun F3 H3 g3 => ?_)
    have r3 := r.mono (g2.trans g3).ex
    obtain ⟨l, us, rfl, h1, s1, z1⟩ := id r3.tup_inv
    refine ⟨l, us, rfl, SqT.of (g3.st.tup h1), fun hw => q _ _ _ (g.trans (g2.trans g3)) ?_, fun _ p hp => q _ _ _ ((g.trans (g2.trans g3)).trans (Go.new g3.st hp)) ?_⟩
    · unfold eR
      rw [← cutL_map]
      unfold cutL
      rw [s1.length] at hw
      rw [hw.1, hw.2]
      have e : ((xs.map f).drop 0).take ((xs.map f).length - 0) = xs.map f := by rw [List.drop_zero, List.take_of_length_le (by simp)]
      rw [e]; exact r3
    · unfold eR
      rw [← cutL_map]
      exact Go.rep_new (t := true) g3.st hp (s1.cut _ _) (Nat.le_trans (cutL_len _ _ _) z1)
theorem ev_rev {α : Type} {f : α → D} {xs : List α} {k1 : Nat} {p1 p2 p3 : Pos} (ha : EvS X a σ F W (eR false f xs) W1) : EvS X (.Subscript a (.Slice none none (some (.UnaryOp .USub (.Constant (.int 1) k1 p1) p2)) p3) pos) σ F W (eR false f xs.reverse) W1 := fun H w Q q =>
  tm_of (pe_revL pe_tm) (ha H w _ fun v F1 H1 g r => by
    obtain ⟨l, us, rfl, h1, s1, z1⟩ := r.lst_inv
    refine ⟨l, us, rfl, SqL.of (g.st.lst h1), fun p hp => q _ _ _ (g.trans (Go.new g.st hp)) ?_⟩
    unfold eR
    rw [List.map_reverse]
    exact Go.rep_new (t := false) g.st hp s1.reverse (by rw [List.length_reverse]; exact z1))
end
end Z
set_option Elab.async false
set_option linter.all false
set_option maxRecDepth 100000
set_option maxHeartbeats 1000000
namespace Z
open PySem PySem.Spec PyProof.Rows L2
/-! ## targets -/
def tmG (X : Cx) (tg : Expr) : TG := fun v σ H Q => ∀ pins s u, Inv X pins σ H s → RelV v u → wpAny (model X.prog X.w) X.A (assign tg X.env u) (fun _ s' => ∃ σ' H', Inv X pins σ' H' s' ∧ Q σ' H') X.xe s
theorem pg_tm {X : Cx} {tg : Expr} : PG X tg (tmG X tg) := ⟨fun pins s σ H v u Q I r h => h pins s u I r⟩
theorem tmG_of {X : Cx} {tg : Expr} {t : TG} (h : PG X tg t) {v : V} {σ : L2.St} {H : Hp} {Q : L2.St → Hp → Prop} (q : t v σ H Q) : tmG X tg v σ H Q := fun pins s u I r => h.run pins s σ H v u Q I r q
def tmGs (X : Cx) (ts : List Expr) : TGs := fun vs σ H Q => ∀ pins s us, Inv X pins σ H s → Vals vs us → wpAny (model X.prog X.w) X.A (assignInOrder ((assignEach ts X.env).map (·.2)) us) (fun _ s' => ∃ σ' H', Inv X pins σ' H' s' ∧ Q σ' H') X.xe s
theorem pgs_tm {X : Cx} {ts : List Expr} : PGs X ts (tmGs X ts) := ⟨fun pins s σ H vs us Q I r h => h pins s us I r⟩
theorem tmGs_of {X : Cx} {ts : List Expr} {t : TGs} (h : PGs X ts t) {vs : List V} {σ : L2.St} {H : Hp} {Q : L2.St → Hp → Prop} (q : t vs σ H Q) : tmGs X ts vs σ H Q := fun pins s us I r => h.run pins s σ H vs us Q I r q
def TgT (X : Cx) (tg : Expr) (v : V) (σ : L2.St) (F W : Hp) (K : L2.St → Prop) : Prop := ∀ H, Wd F W H → ∀ Q : L2.St → Hp → Prop, (∀ σ2, K σ2 → Q σ2 H) → tmG X tg v σ H Q
def TgTs (X : Cx) (ts : List Expr) (vs : List V) (σ : L2.St) (F W : Hp) (K : L2.St → Prop) : Prop := ∀ H, Wd F W H → ∀ Q : L2.St → Hp → Prop, (∀ σ2, K σ2 → Q σ2 H) → tmGs X ts vs σ H Q
section
variable {X : Cx} {v : V} {vs : List V} {σ : L2.St} {F W : Hp} {K : L2.St → Prop} {pos : Pos} {e : Expr} {es : List Expr} {ds : List D}
theorem tg_name {i : Nat} {x : Str} (h : K (σ.set i (some v))) (hi : X.N[i]? = some x := by rfl) (hN : X.N.Nodup := by first | assumption | decide +kernel) (hx : Loc X.env.scope x := by first | exact Or.inl rfl | exact Or.inr rfl)
    (hf : X.fn x = true ∨ X.env.scope.names.lookup x = some .local := by first | exact .inl rfl | exact .inr rfl) : TgT X (.Name x pos) v σ F W K := fun H w Q q => tmG_of (pg_name hN hi hx hf) (q _ h)
theorem tgs_nil (h : K σ) : TgTs X [] [] σ F W K := fun H w Q q => tmGs_of pgs_nil ⟨rfl, q _ h⟩
theorem tgs_cons (h : TgT X e v σ F W fun σ2 => TgTs X es vs σ2 F W K) (hs : (assignEach (e :: es) X.env).map (·.2) = assign e X.env :: (assignEach es X.env).map (·.2) := by rfl) : TgTs X (e :: es) (v :: vs) σ F W K := fun H w Q q =>
  tmGs_of (pgs_cons pg_tm pgs_tm hs) ⟨v, vs, rfl, h H w _ fun σ2 k => k H w Q q⟩
theorem tg_tup {x1 : Nat} (r : Rep F v (.sq true ds)) (h : ∀ vs, Reps F vs ds → TgTs X es vs σ F W K) (hn : (assignEach es X.env).length = ds.length := by rfl) (hst : (assignEach es X.env).findIdx? (·.1) = none := by rfl) (hc : X.calm = true := by rfl) : TgT X (.Tuple es x1 pos) v σ F W K := fun H w Q q => by
  obtain ⟨a, us, rfl, h1, s1, z1⟩ := r.tup_inv
  exact tmG_of (pg_tup hc pgs_tm hn hst) ⟨a, us, rfl, SqT.of (w.tup h1), s1.length, h us s1 H w Q q⟩
end

/-! ## what is walked -/
def EvI (X : Cx) (tg iter : Expr) (σ : L2.St) (F W : Hp) (ds : List D) (W1 : Hp) : Prop :=
  ∀ H, Wd F W H → ∀ R : It → Hp → Prop, (∀ (J : It) (G : Hp → Prop) (Y : Nat → Hp → V → Hp → Prop) (F1 H1 : Hp), Go F W H F1 W1 H1 → Walk J ds.length G Y → (∀ F2 W2 H2, Same F1 F2 → Wd F2 W2 H2 → G H2) →
    (∀ (i : Nat) (F2 W2 H2 H3 : Hp) (x : V) (d : D), Same F1 F2 → Wd F2 W2 H2 → Y i H2 x H3 → ds[i]? = some d → ∃ F3, Go F2 W2 H2 F3 W2 H3 ∧ Rep F3 x d) → R J H1) → tmI X tg iter σ H R
section
variable {X : Cx} {e a b c tg : Expr} {es : List Expr} {σ : L2.St} {F F1 W W1 W2 W3 : Hp} {d d1 d2 d3 : D} {ds : List D} {q q1 q2 : Bool} {pos p : Pos} {i j : Int} {k : Nat}
theorem EvI.mono (h : EvI X tg e σ F W ds W1) (ex : Same F F1) : EvI X tg e σ F1 W ds W1 := fun H w R q =>
  h H (w.mono ex) R fun J G Y F' H' g wk hG hY => by
    obtain ⟨F2, e2, g2⟩ := g.up ex w
    exact q J G Y F2 H' g2 wk (fun F3 W3 H3 e3 w3 => hG F3 W3 H3 (e2.trans e3) w3) fun i F3 W3 H3 H4 x d e3 => hY i F3 W3 H3 H4 x d (e2.trans e3)
theorem ei_sq {t : Bool} {xs : List D} (h : EvS X e σ F W (.sq t xs) W1) : EvI X tg e σ F W xs W1 := fun H w R q => by
  cases t with
  | false =>
    refine tmI_of (pi_list pe_tm) (h H w _ fun v F1 H1 g r => ?_)
    obtain ⟨a, vs, rfl, h1, s1, z1⟩ := r.lst_inv
    refine ⟨a, rfl, ⟨vs, SqL.of (g.st.lst h1)⟩, q _ _ _ F1 H1 g (s1.length ▸ walk_list (xs := vs)) (fun F2 W2 H2 e w2 => SqL.of (w2.lst (e _ _ h1))) fun i F2 W2 H2 H3 x d e w2 y hd => ?_⟩
    obtain ⟨rfl, hx⟩ := y
    obtain ⟨d', hd', r'⟩ := s1.get hx
    rw [hd] at hd'; cases hd'
    exact ⟨F2, Go.refl w2, r'.mono e⟩
  | true =>
    refine tmI_of (pi_tup pe_tm) (h H w _ fun v F1 H1 g r => ?_)
    obtain ⟨a, vs, rfl, h1, s1, z1⟩ := r.tup_inv
    refine ⟨a, rfl, ⟨vs, SqT.of (g.st.tup h1)⟩, q _ _ _ F1 H1 g (s1.length ▸ walk_tup (xs := vs)) (fun F2 W2 H2 e w2 => SqT.of (w2.tup (e _ _ h1))) fun i F2 W2 H2 H3 x d e w2 y hd => ?_⟩
    obtain ⟨rfl, hx⟩ := y
    obtain ⟨d', hd', r'⟩ := s1.get hx
    rw [hd] at hd'; cases hd'
    exact ⟨F2, Go.refl w2, r'.mono e⟩
theorem ei_row {α : Type} {f : α → D} {xs : List α} {t : Bool} (h : EvS X e σ F W (eR t f xs) W1) : EvI X tg e σ F W (xs.map f) W1 := ei_sq h
/-- lo, lo + 1, .. below hi -/
def rg (lo hi : Int) : List Int := (List.range (hi - lo).toNat).map fun (i : Nat) => lo + i
theorem rg_get {lo hi : Int} {i : Nat} (h : i < (hi - lo).toNat) : (rg lo hi)[i]? = some (lo + i) := by
  unfold rg
  rw [List.getElem?_map, List.getElem?_range h]; rfl
theorem rg_len {lo hi : Int} : (rg lo hi).length = (hi - lo).toNat := by unfold rg; rw [List.length_map, List.length_range]
theorem ei_range1 (hm : X.mg "range" = none) (h : EvA X [a] σ F W [.int i] W1) (hz : i < 2 ^ 62) (hz0 : -(2 ^ 62) ≤ i) (hg : Gl X "range" := by rfl) (hs : starEach [a] X.env = [(false, eval a X.env)] := by rfl) : EvI X tg (.Call (.Name "range" p) [a] [] pos) σ F W ((rg 0 i).map D.int) W1 := fun H w R q =>
  tmI_of (pi_range1 hg hm pa_tm hs) (h H w _ fun v F1 H1 g r => by
    cases r with
    | cons r t =>
    cases t; cases r
    have el : ((rg 0 i).map D.int).length = i.toNat := by rw [List.length_map, rg_len]; simp
    refine ⟨i, rfl, hz0, hz, q _ _ _ F1 H1 g (by rw [el]; exact walk_range) (fun _ _ _ _ _ => trivial) fun k F2 W2 H2 H3 x d e w2 y hd => ?_⟩
    obtain ⟨rfl, rfl⟩ := y
    have hk : k < i.toNat := by rw [← el]; exact (List.getElem?_eq_some_iff.mp hd).1
    rw [List.getElem?_map, rg_get (by simpa using hk)] at hd
    cases hd
    exact ⟨F2, Go.refl w2, .int _⟩)
theorem ei_range2 (hm : X.mg "range" = none) (h : EvA X [a, b] σ F W [.int i, .int j] W2) (hz : -(2 ^ 62) ≤ i ∧ i < 2 ^ 62 ∧ -(2 ^ 62) ≤ j ∧ j < 2 ^ 62) (hg : Gl X "range" := by rfl) (hs : starEach [a, b] X.env = [(false, eval a X.env), (false, eval b X.env)] := by rfl) (hs2 : starEach [b] X.env = [(false, eval b X.env)] := by rfl) :
    EvI X tg (.Call (.Name "range" p) [a, b] [] pos) σ F W ((rg i j).map D.int) W2 := fun H w R q =>
  tmI_of (pi_range2 hg hm pa_tm hs hs2) (h H w _ fun v F2 H2 g02 r => by
    cases r with
    | cons r t =>
    cases t with
    | cons r2 t =>
    cases t; cases r; cases r2
    have el : ((rg i j).map D.int).length = (j - i).toNat := by rw [List.length_map, rg_len]
    refine ⟨i, j, rfl, hz, q _ _ _ F2 H2 g02 (by rw [el]; exact walk_range) (fun _ _ _ _ _ => trivial) fun k F3 W3 H3 H4 x d e w2 y hd => ?_⟩
    obtain ⟨rfl, rfl⟩ := y
    have hk : k < (j - i).toNat := by rw [← el]; exact (List.getElem?_eq_some_iff.mp hd).1
    rw [List.getElem?_map, rg_get hk] at hd
    cases hd
    exact ⟨F3, Go.refl w2, .int _⟩)
/-- pairs that a walk makes -/
theorem pair_yield {xs ys : Nat → Option V} {i : Nat} {F2 W2 H2 H3 : Hp} {x : V} {d1 d2 : D} (w : Wd F2 W2 H2) (y : YPair xs ys i H2 x H3) (h1 : ∀ v, xs i = some v → Rep F2 v d1) (h2 : ∀ v, ys i = some v → Rep F2 v d2) : ∃ F3, Go F2 W2 H2 F3 W2 H3 ∧ Rep F3 x (.sq true [d1, d2]) := by
  obtain ⟨T, a, b, rfl, hT, rfl, ha, hb⟩ := y
  exact ⟨_, Go.new w hT, Go.rep_new (t := true) w hT (.cons (h1 a ha) (.cons (h2 b hb) .nil)) (by simp)⟩
/-- numbered -/
def enumD (ds : List D) : List D := ds.zipIdx.map fun p => .sq true [.int (p.2 : Int), p.1]
theorem enumD_get {ds : List D} {i : Nat} : (enumD ds)[i]? = ds[i]?.map fun d => .sq true [.int (i : Int), d] := by
  unfold enumD
  rw [List.getElem?_map, List.getElem?_zipIdx]
  cases ds[i]? <;> simp
theorem ei_enumL {elts : List Expr} {kk : Nat} {tpos : Pos} {xs : List D} (hm : X.mg "enumerate" = none) (h : EvA X [a] σ F W [.sq false xs] W1) (hg : Gl X "enumerate" := by rfl) (hs : starEach [a] X.env = [(false, eval a X.env)] := by rfl) :
    EvI X (.Tuple elts kk tpos) (.Call (.Name "enumerate" p) [a] [] pos) σ F W (enumD xs) W1 := fun H w R q =>
  tmI_of (pi_enum hg hm pa_tm hs) (h H w _ fun v F1 H1 g r => by
    cases r with
    | cons r t =>
    cases t
    obtain ⟨l, vs, rfl, h1, s1, z1⟩ := r.lst_inv
    have el : (enumD xs).length = vs.length := by unfold enumD; rw [List.length_map, List.length_zipIdx, s1.length]
    refine ⟨l, vs, rfl, SqL.of (g.st.lst h1), q _ _ _ F1 H1 g (by rw [el]; exact walk_enum) (fun F2 W2 H2 e w2 => SqL.of (w2.lst (e _ _ h1))) fun i F2 W2 H2 H3 x d e w2 y hd => ?_⟩
    rw [enumD_get, Option.map_eq_some_iff] at hd
    obtain ⟨d', hd', rfl⟩ := hd
    exact pair_yield w2 y (fun v hv => by cases hv; exact .int _) fun v hv => by
      obtain ⟨d2, hd2, r2⟩ := s1.get hv
      rw [hd'] at hd2; cases hd2
      exact r2.mono e)
def zipD (xs ys : List D) : List D := (xs.zip ys).map fun p => .sq true [p.1, p.2]
theorem ei_zip {elts : List Expr} {kk : Nat} {tpos : Pos} {xs ys : List D} (hm : X.mg "zip" = none) (h : EvA X [a, b] σ F W [.sq false xs, .sq false ys] W2) (hg : Gl X "zip" := by rfl) (hs : starEach [a, b] X.env = (false, eval a X.env) :: starEach [b] X.env := by rfl) (hpl : (backTo pos (starEach [b] X.env)).any (·.1) = false := by rfl) :
    EvI X (.Tuple elts kk tpos) (.Call (.Name "zip" p) [a, b] [] pos) σ F W (zipD xs ys) W2 := fun H w R q =>
  tmI_of (pi_zip hg hm pa_tm hs hpl) (h H w _ fun v F2 H2 g02 r => by
    cases r with
    | cons r t =>
    cases t with
    | cons r2 t =>
    cases t
    have g2 := g02
    obtain ⟨l, vs, rfl, h1, s1, z1⟩ := r.lst_inv
    obtain ⟨l2, us, rfl, h2, s2, z2⟩ := r2.lst_inv
    have el : (zipD xs ys).length = min vs.length us.length := by unfold zipD; rw [List.length_map, List.length_zip, s1.length, s2.length]
    refine ⟨l, l2, vs, us, rfl, SqL.of (g2.st.lst h1), SqL.of (g2.st.lst h2), q _ _ _ F2 H2 g02 (walk_zip el) (fun F3 W3 H3 e w3 => ⟨SqL.of (w3.lst (e _ _ h1)), SqL.of (w3.lst (e _ _ h2))⟩) fun i F3 W3 H3 H4 x d e w3 y hd => ?_⟩
    unfold zipD at hd
    rw [List.getElem?_map, Option.map_eq_some_iff] at hd
    obtain ⟨⟨da, db⟩, hd', rfl⟩ := hd
    rw [List.getElem?_zip_eq_some] at hd'
    exact pair_yield w3 y (fun v hv => by
      obtain ⟨d2, hd2, r2⟩ := s1.get hv
      rw [hd'.1] at hd2; cases hd2
      exact r2.mono e) fun v hv => by
      obtain ⟨d2, hd2, r2⟩ := s2.get hv
      rw [hd'.2] at hd2; cases hd2
      exact r2.mono e)
end

/-! ## owned cells -/
def del (W : Hp) (p : Addr) : Hp := fun a => if a = p then none else W a
theorem del_upd {W : Hp} {p : Addr} {o : HO} (h : W p = none) : del (upd W p o) p = W := by
  funext a; unfold del upd
  by_cases e : a = p
  · rw [if_pos e, e]; exact h.symm
  · rw [if_neg e, if_neg e]
theorem Wd.fresh {F W H : Hp} (w : Wd F W H) {p : Addr} (h : H p = none) : F p = none ∧ W p = none := by
  constructor
  · rcases opt_cases (F p) with z | ⟨z, hz⟩
    · exact z
    · obtain ⟨u, hu⟩ := w.f.some hz
      rw [h] at hu; cases hu
  · rcases opt_cases (W p) with z | ⟨z, hz⟩
    · exact z
    · rw [w.w p z hz] at h; cases h
/-- a new owned cell -/
theorem Go.own {F W H : Hp} (w : Wd F W H) {p : Addr} {o : HO} (h : H p = none) : Go F W H F (upd W p o) (upd H p o) := by
  obtain ⟨fp, wp⟩ := w.fresh h
  refine ⟨⟨fun a u q => ?_, fun a u q => ?_, fun a u q => ?_⟩, Same.refl F, fun a u q _ => by rw [upd_ne (ne_of_none q h)]; exact q, fun a o h q => absurd (h.symm.trans q) (by simp), fun a u q => ?_⟩
  · rw [upd_ne (ne_of_none q fp)]; exact w.f a u q
  · by_cases e : a = p
    · subst e; rw [upd_same] at q ⊢; exact q
    · rw [upd_ne e] at q ⊢; exact w.w a u q
  · rw [upd_ne (ne_of_none q fp)]; exact w.d a u q
  · by_cases e : a = p
    · subst e; exact .inr h
    · rw [upd_ne e] at q; exact .inl ⟨u, q⟩
/-- an owned cell is written -/
theorem Go.put {F W H : Hp} (w : Wd F W H) {p : Addr} {o u : HO} (h : W p = some u) : Go F W H F (upd W p o) (upd H p o) := by
  have fp : F p = none := by
    rcases opt_cases (F p) with z | ⟨z, hz⟩
    · exact z
    · rw [w.d p z hz] at h; cases h
  refine ⟨⟨fun a u q => ?_, fun a u q => ?_, fun a u q => ?_⟩, Same.refl F, fun a z q n => ?_, fun a o h q => absurd (h.symm.trans q) (by simp), fun a z q => ?_⟩
  · rw [upd_ne (ne_of_none q fp)]; exact w.f a u q
  · by_cases e : a = p
    · subst e; rw [upd_same] at q ⊢; exact q
    · rw [upd_ne e] at q ⊢; exact w.w a u q
  · rw [upd_ne (ne_of_none q fp)]; exact w.d a u q
  · by_cases e : a = p
    · subst e; rw [h] at n; cases n
    · rw [upd_ne e]; exact q
  · by_cases e : a = p
    · subst e; exact .inl ⟨u, h⟩
    · rw [upd_ne e] at q; exact .inl ⟨z, q⟩
/-- an owned cell is frozen -/
theorem Go.freeze {F W H : Hp} (w : Wd F W H) {p : Addr} {o : HO} (h : W p = some o) : Go F W H (upd F p o) (del W p) H := by
  have fp : F p = none := by
    rcases opt_cases (F p) with z | ⟨z, hz⟩
    · exact z
    · rw [w.d p z hz] at h; cases h
  refine ⟨⟨fun a u q => ?_, fun a u q => ?_, fun a u q => ?_⟩, fun a u q => by rw [upd_ne (ne_of_none q fp)]; exact q, fun a z q _ => q, fun a z q q2 => ?_, fun a z q => ?_⟩
  · by_cases e : a = p
    · subst e; rw [upd_same] at q; cases q; exact .inl (w.w a _ h)
    · rw [upd_ne e] at q; exact w.f a u q
  · unfold del at q
    by_cases e : a = p
    · rw [if_pos e] at q; cases q
    · rw [if_neg e] at q; exact w.w a u q
  · unfold del
    by_cases e : a = p
    · rw [if_pos e]
    · rw [if_neg e]; rw [upd_ne e] at q; exact w.d a u q
  · by_cases e : a = p
    · subst e; exact .inr ⟨o, h⟩
    · rw [upd_ne e] at q2; rw [q] at q2; cases q2
  · unfold del at q
    by_cases e : a = p
    · rw [if_pos e] at q; cases q
    · rw [if_neg e] at q; exact .inl ⟨z, q⟩
/-- one more owned cell, not looked at -/
theorem Wd.less {F W H : Hp} {p : Addr} {o : HO} (w : Wd F (upd W p o) H) (h : W p = none) : Wd F W H := by
  refine ⟨w.f, fun a u q => w.w a u (by rw [upd_ne (ne_of_none q h)]; exact q), fun a u q => ?_⟩
  have := w.d a u q
  by_cases e : a = p
  · rw [e]; exact h
  · rw [upd_ne e] at this; exact this
theorem Go.more {F W H F' W' H' : Hp} {p : Addr} {o : HO} (g : Go F W H F' W' H') (w : Wd F (upd W p o) H) (h : W p = none) : W' p = none ∧ Go F (upd W p o) H F' (upd W' p o) H' := by
  have hp : H p = some o := w.w p o upd_same
  have w'p : W' p = none := by
    rcases opt_cases (W' p) with z | ⟨z, hz⟩
    · exact z
    · rcases g.nW p z hz with ⟨u, hu⟩ | hu
      · rw [h] at hu; cases hu
      · rw [hp] at hu; cases hu
  have h'p : H' p = some o := g.keep p o hp h
  have fp : F p = none := by
    rcases opt_cases (F p) with z | ⟨z, hz⟩
    · exact z
    · have := w.d p z hz; rw [upd_same] at this; cases this
  refine ⟨w'p, ⟨g.st.f, fun a u q => ?_, fun a u q => ?_⟩, g.ex, fun a u q n => ?_, fun a u q q2 => ?_, fun a u q => ?_⟩
  · by_cases e : a = p
    · subst e; rw [upd_same] at q; cases q; exact h'p
    · rw [upd_ne e] at q; exact g.st.w a u q
  · by_cases e : a = p
    · subst e
      rcases g.nF a u fp q with z | ⟨z, hz⟩
      · rw [hp] at z; cases z
      · rw [h] at hz; cases hz
    · rw [upd_ne e]; exact g.st.d a u q
  · by_cases e : a = p
    · subst e; rw [upd_same] at n; cases n
    · rw [upd_ne e] at n; exact g.keep a u q n
  · rcases g.nF a u q q2 with z | ⟨z, hz⟩
    · exact .inl z
    · exact .inr ⟨z, by rw [upd_ne (ne_of_none hz h)]; exact hz⟩
  · by_cases e : a = p
    · subst e; exact .inl ⟨o, upd_same⟩
    · rw [upd_ne e] at q
      rcases g.nW a u q with ⟨z, hz⟩ | z
      · exact .inl ⟨z, by rw [upd_ne e]; exact hz⟩
      · exact .inr z
/-- a value that no object is needed for: back to what was frozen -/
theorem Go.back {F W H F' W' H' : Hp} (g : Go F W H F' W' H') : Go F W H F W' H' :=
  ⟨g.st.mono g.ex, Same.refl F, g.keep, fun a o h q => absurd (h.symm.trans q) (by simp), g.nW⟩
end Z
set_option Elab.async false
set_option linter.all false
set_option maxRecDepth 100000
set_option maxHeartbeats 1000000
namespace Z
open PySem PySem.Spec PyProof.Rows L2
/-! ## comprehensions -/
def tmTs (X : Cx) (ifs : List Expr) : TT := fun σ H Q => ∀ pins s, Inv X pins σ H s →
  wpAny (model X.prog X.w) X.A (forIn ifs true fun c r => if r = true then do let ok ← isTrue c X.env (eval c X.env); pure (ForInStep.yield ok) else pure (ForInStep.yield r)) (TP X pins σ Q) X.xe s
theorem pts_tm {X : Cx} {ifs : List Expr} : PTs X ifs (tmTs X ifs) := ⟨fun pins s _ _ _ I h => h pins s I⟩
theorem tmTs_of {X : Cx} {ifs : List Expr} {t : TT} (h : PTs X ifs t) {σ : L2.St} {H : Hp} {Q : Bool → Hp → Prop} (q : t σ H Q) : tmTs X ifs σ H Q := fun pins s I => h.run pins s σ H Q I q
def EvTs (X : Cx) (ifs : List Expr) (σ : L2.St) (F W : Hp) (b : Bool) (W' : Hp) : Prop :=
  ∀ H, Wd F W H → ∀ Q : Bool → Hp → Prop, (∀ F' H', Go F W H F' W' H' → Q b H') → tmTs X ifs σ H Q
section
variable {X : Cx} {e elt a b c tg iter : Expr} {es ifs : List Expr} {σ : L2.St} {F F1 W W1 W2 W3 : Hp} {d d1 d2 d3 : D} {ds : List D} {q q1 q2 : Bool} {pos p : Pos} {i j : Int} {k : Nat}
theorem ets_nil : EvTs X [] σ F W true W := fun H w Q k => tmTs_of pts_nil (k F H (Go.refl w))
theorem ets_one (h : EvT X c σ F W q W1) : EvTs X [c] σ F W q W1 := fun H w Q k => tmTs_of (pts_one pt_tm) (h H w Q k)
theorem EvTs.mono (h : EvTs X ifs σ F W q W1) (ex : Same F F1) : EvTs X ifs σ F1 W q W1 := fun H w Q k =>
  h H (w.mono ex) Q fun F' H' g => by
    obtain ⟨F2, e2, g2⟩ := g.up ex w
    exact k F2 H' g2
/-- the block of a comprehension of X -/
abbrev bX (X : Cx) (scope : Scope) (s : Shared) (H : Hp) (C : Addr) (cl : List (Str × Addr)) (fp : List Addr) : Cx := X.blk s H scope (compEnvC scope cl C X.env) fp
def bE (X : Cx) (scope : Scope) (e : Expr) : TE := fun σ H Q => ∀ s H0 C cl fp, tmE (bX X scope s H0 C cl fp) e σ H Q
def bTs (X : Cx) (scope : Scope) (ifs : List Expr) : TT := fun σ H Q => ∀ s H0 C cl fp, tmTs (bX X scope s H0 C cl fp) ifs σ H Q
def bG (X : Cx) (scope : Scope) (tg : Expr) : TG := fun v σ H Q => ∀ s H0 C cl fp, tmG (bX X scope s H0 C cl fp) tg v σ H Q
/-- one turn of a comprehension: the target at v, the tests, the element -/
def Turn1 (X : Cx) (scope : Scope) (vs : List Nat) (tg : Expr) (ifs : List Expr) (elt : Expr) (v : V) (σ : L2.St) (F W : Hp) (b : Bool) (W1 : Hp) (d : D) (W2 : Hp) : Prop :=
  ∀ s H0 C cl fp, TgT (bX X scope s H0 C cl fp) tg v (wipe σ vs) F W fun σ2 => wipe σ2 vs = wipe σ vs ∧ (∀ s H0 C cl fp, EvTs (bX X scope s H0 C cl fp) ifs σ2 F W b W1) ∧ (b = true → ∀ s H0 C cl fp, EvS (bX X scope s H0 C cl fp) elt σ2 F W1 d W2)
/-- what a list comprehension makes -/
def LcS (X : Cx) (elt tg iter : Expr) (ifs : List Expr) (scope : Scope) (own : List (Str × Nat)) (σ : L2.St) (F W : Hp) (d : D) (W' : Hp) : Prop :=
  ∀ H, Wd F W H → ∀ Q : VK, (∀ v F' H', Go F W H F' W' H' → Rep F' v d → Q v H') → tLc (tmI X tg iter) (bG X scope tg) (bTs X scope ifs) (bE X scope elt) (own.map (·.2)) σ H Q
theorem ev_ofLc {own : List (Str × Nat)} {scope : Scope} (h : LcS X elt tg iter ifs scope own σ F W d W1) (ok : BlkOk X.N X.env.scope scope own := by exact blkOk_by (by decide +kernel)) (hc : X.calm = true := by rfl) (hN : X.N.Nodup := by first | assumption | decide +kernel) (hs : ∀ x, foldedSetIterable iter X.env x = pure x := by intro _; rfl) :
    EvS X (.ListComp elt [⟨tg, iter, ifs, 0⟩] scope pos) σ F W d W1 := fun H w Q q =>
  tm_of (pe_lc (g := bG X scope tg) (tt := bTs X scope ifs) (te := bE X scope elt) hc hN pi_tm ok (fun s H0 C cl fp => ⟨fun pins s1 σ1 H1 v u Q1 I r h => h s H0 C cl fp pins s1 u I r⟩)
    (fun s H0 C cl fp => ⟨fun pins s1 σ1 H1 Q1 I h => h s H0 C cl fp pins s1 I⟩) (fun s H0 C cl fp => ⟨fun pins s1 σ1 H1 Q1 I h => h s H0 C cl fp pins s1 I⟩) hs) (h H w Q q)
theorem lc_G {own : List (Str × Nat)} {scope : Scope} {n : Nat} {Wf Wm : Nat → Hp} {p : Nat → Bool} {g : Nat → D} (hi : EvI X tg iter σ F W ds (Wf 0)) (hn : ds.length = n)
    (body : ∀ (i : Nat) (d : D), ds[i]? = some d → ∀ v F1, Same F F1 → Rep F1 v d → Turn1 X scope (own.map (·.2)) tg ifs elt v σ F1 (Wf i) (p i) (Wm i) (g i) (Wf (i + 1))) (hw : ∀ i, i < n → p i = false → Wm i = Wf (i + 1)) (hz : n ≤ 100000)
    : LcS X elt tg iter ifs scope own σ F W (.sq false (((List.range n).filter p).map g)) (Wf n) := fun H w Q q =>
    (hi H w _ fun J G Y F1 H1 g1 wk hG hY => fun Dl hD => by
      have hDl := g1.st.fresh hD
      rw [hn] at wk
      refine lc_it wk (fun i H' => ∃ Fi acc, Go F1 (upd (Wf 0) Dl (.lst [])) (upd H1 Dl (.lst [])) Fi (upd (Wf i) Dl (.lst acc)) H' ∧ Reps Fi acc (((List.range i).filter p).map g) ∧ Wf i Dl = none) ?_ ?_ ?_ ?_
      · exact ⟨F1, [], Go.refl (Go.own g1.st hD).st, .nil, hDl.2⟩
      · rintro i H' hi' ⟨Fi, acc, gi, _, _⟩
        exact hG Fi _ H' gi.ex gi.st
      · rintro i x H' H'' hi' ⟨Fi, acc, gi, racc, wD⟩ hy
        have hi2 : i < ds.length := by omega
        obtain ⟨F3, g3, r3⟩ := hY i Fi _ H' H'' x ds[i] gi.ex gi.st hy (by simp [hi2])
        have w3 := g3.st.less wD
        have tn := body i ds[i] (by simp [hi2]) x F3 ((g1.ex.trans gi.ex).trans g3.ex) r3
        intro s0 H0' C cl fp
        refine tn s0 H0' C cl fp H'' w3 _ fun σ2 ⟨hσ, ht, he⟩ => ⟨hσ, fun s1 H1' C1 cl1 fp1 => ht s1 H1' C1 cl1 fp1 H'' w3 _ fun F4 H4 g4 => ?_⟩
        obtain ⟨wmD, g4'⟩ := g4.more g3.st wD
        cases hp : p i with
        | false =>
          rw [if_neg Bool.false_ne_true]
          refine ⟨F4, acc, (gi.trans (g3.trans (hw i (by omega) hp ▸ g4'))), ?_, hw i (by omega) hp ▸ wmD⟩
          rw [List.range_succ, List.filter_append, List.map_append]
          simp only [List.filter_cons, hp, Bool.false_eq_true, if_false, List.filter_nil, List.map_nil, List.append_nil]
          exact racc.mono (g3.ex.trans g4.ex)
        | true =>
          rw [if_pos rfl]
          intro s5 H5' C5 cl5 fp5
          refine (he hp s5 H5' C5 cl5 fp5).mono g4.ex H4 g4.st _ fun y F5 H5 g5 r5 => ?_
          obtain ⟨wnD, g5'⟩ := g5.more g4'.st wmD
          have hcell : H5 Dl = some (.lst acc) := g5'.st.w Dl _ upd_same
          have hlen : acc.length ≤ i := by
            rw [racc.length, List.length_map]
            have := List.length_filter_le p (List.range i)
            rw [List.length_range] at this; exact this
          refine ⟨acc, hcell, Nat.lt_of_le_of_lt hlen (Nat.lt_of_lt_of_le (by omega) (sz_ok (Nat.le_refl 100000))), F5, acc ++ [y], ?_, ?_, wnD⟩
          · have := Go.put (o := .lst (acc ++ [y])) g5'.st (p := Dl) upd_same
            rw [upd_upd] at this
            exact gi.trans (g3.trans (g4'.trans (g5'.trans this)))
          · rw [List.range_succ, List.filter_append, List.map_append]
            simp only [List.filter_cons, hp, if_true, List.filter_nil, List.map_cons, List.map_nil]
            exact (racc.mono (g3.ex.trans (g4.ex.trans g5.ex))).snoc r5
      · rintro H' ⟨Fi, acc, gi, racc, wD⟩
        have fr := Go.freeze gi.st (p := Dl) upd_same
        rw [del_upd wD] at fr
        refine q (.ref Dl) _ H' ((g1.trans (Go.own g1.st hD)).trans (gi.trans fr)) (.sq upd_same (racc.mono fr.ex) ?_)
        rw [List.length_map]
        have := List.length_filter_le p (List.range n)
        rw [List.length_range] at this; omega)
/-- over the rows of one sort, nothing drawn -/
theorem lc_of {α : Type} {xs : List α} {f : α → D} {p : α → Bool} {g : α → D} {own : List (Str × Nat)} {scope : Scope} (hi : EvI X tg iter σ F W (xs.map f) W1) (hz : xs.length ≤ 100000)
    (body : ∀ x ∈ xs, ∀ v F1, Same F F1 → Rep F1 v (f x) → Turn1 X scope (own.map (·.2)) tg ifs elt v σ F1 W1 (p x) W1 (g x) W1)
    : LcS X elt tg iter ifs scope own σ F W (.sq false ((xs.filter p).map g)) W1 := by
  cases xs with
  | nil =>
    exact lc_G (n := 0) (Wf := fun _ => W1) (Wm := fun _ => W1) (p := fun _ => false) (g := fun _ => D.non) hi rfl (fun i d h => by simp at h) (fun _ _ _ => rfl) (Nat.zero_le _)
  | cons x0 xs' =>
    have e : ((List.range (x0 :: xs').length).filter (fun i => p ((x0 :: xs').getD i x0))).map (fun i => g ((x0 :: xs').getD i x0)) = ((x0 :: xs').filter p).map g := by
      have h0 : (List.range (x0 :: xs').length).map (fun i => (x0 :: xs').getD i x0) = x0 :: xs' := by
        apply List.ext_getElem
        · simp
        · intro i h1 h2
          rw [List.getElem_map, List.getElem_range, List.getD_eq_getElem?_getD, List.getElem?_eq_getElem h2]; rfl
      conv => rhs; rw [← h0]
      rw [List.filter_map, List.map_map]
      rfl
    rw [← e]
    refine lc_G (n := (x0 :: xs').length) (Wf := fun _ => W1) (Wm := fun _ => W1) hi (by rw [List.length_map]) (fun i d h v F1 ex r => ?_) (fun _ _ _ => rfl) hz
    rw [List.getElem?_map, Option.map_eq_some_iff] at h
    obtain ⟨x, hx, rfl⟩ := h
    have e2 : (x0 :: xs').getD i x0 = x := by rw [List.getD_eq_getElem?_getD, hx]; rfl
    rw [e2]
    exact body x (List.mem_of_getElem? hx) v F1 ex r
theorem LcS.is {own : List (Str × Nat)} {scope : Scope} (h : LcS X elt tg iter ifs scope own σ F W d W1) (q : d = d1) : LcS X elt tg iter ifs scope own σ F W d1 W1 := q ▸ h
/-! ## statements -/
structure AE where
  nx : L2.St → Hp → Hp → Prop
  rt : D → Hp → Prop
  bk : L2.St → Hp → Hp → Prop := fun _ _ _ => False
  ct : L2.St → Hp → Hp → Prop := fun _ _ _ => False
/-- what is wanted behind a block comes -/
structure Ok (A : AE) (F W H : Hp) (E : Ends) : Prop where
  nx : ∀ σ' F' W' H', Go F W H F' W' H' → A.nx σ' F' W' → E.nx σ' H'
  rt : ∀ d v F' W' H', Go F W H F' W' H' → Rep F' v d → A.rt d W' → E.rt v H'
  bk : ∀ σ' F' W' H', Go F W H F' W' H' → A.bk σ' F' W' → E.bk σ' H'
  ct : ∀ σ' F' W' H', Go F W H F' W' H' → A.ct σ' F' W' → E.ct σ' H'
def BlkS (X : Cx) (sts : List Stmt) (σ : L2.St) (F W : Hp) (A : AE) : Prop := ∀ H, Wd F W H → ∀ E : Ends, Ok A F W H E → tmB X sts E σ H
theorem Ok.go {A : AE} {H F' W' H' : Hp} {E : Ends} (o : Ok A F W H E) (g : Go F W H F' W' H') : Ok A F' W' H' E :=
  ⟨fun σ' F2 W2 H2 g2 q => o.nx σ' F2 W2 H2 (g.trans g2) q, fun d v F2 W2 H2 g2 r q => o.rt d v F2 W2 H2 (g.trans g2) r q, fun σ' F2 W2 H2 g2 q => o.bk σ' F2 W2 H2 (g.trans g2) q, fun σ' F2 W2 H2 g2 q => o.ct σ' F2 W2 H2 (g.trans g2) q⟩
variable {A : AE} {rest sa sb body : List Stmt} {st : Stmt}
/-- behind what was done -/
theorem BlkS.run {H F' W' H' : Hp} {E : Ends} {sts : List Stmt} {σ' : L2.St} (h : BlkS X sts σ' F' W' A) (o : Ok A F W H E) (g : Go F W H F' W' H') : tmB X sts E σ' H' := h H' g.st E (o.go g)
theorem bl_nil (h : A.nx σ F W) : BlkS X [] σ F W A := fun H w E o => tmB_of pss_nil (o.nx σ F W H (Go.refl w) h)
theorem bl_ret {rest : List Stmt} (h : EvS X e σ F W d W1) (q : A.rt d W1) : BlkS X (.Return (some e) pos :: rest) σ F W A := fun H w E o =>
  tmB_of (pss_cons (ps_ret pe_tm) pss_tm) (h H w _ fun v F' H' g r => o.rt d v F' W1 H' g r q)
theorem bl_retN {rest : List Stmt} (q : A.rt .non W) : BlkS X (.Return none pos :: rest) σ F W A := fun H w E o =>
  tmB_of (pss_cons ps_retN pss_tm) (o.rt .non .non F W H (Go.refl w) .non q)
theorem bl_expr (h : EvS X e σ F W d W1) (k : BlkS X rest σ F W1 A) (hs : swapsWith e none pos.line X.env = pure false := by rfl) : BlkS X (.Expr e pos :: rest) σ F W A := fun H w E o =>
  tmB_of (pss_cons (ps_expr pe_tm hs) pss_tm) (h H w _ fun v F' H' g r => k.run o g.back)
theorem bl_asg {i : Nat} {x : Str} {pos' : Pos} (h : EvS X e σ F W d W1) (k : ∀ v F1, Same F F1 → Rep F1 v d → BlkS X rest (σ.set i (some v)) F1 W1 A) (hi : X.N[i]? = some x := by rfl) (hx : Loc X.env.scope x := by first | exact Or.inl rfl | exact Or.inr rfl)
    (hs : swapsWith e (some (.Name x pos')) pos.line X.env = pure false := by rfl) (hN : X.N.Nodup := by first | assumption | decide +kernel) (hf : X.fn x = true ∨ X.env.scope.names.lookup x = some .local := by first | exact .inl rfl | exact .inr rfl) :
    BlkS X (.Assign [.Name x pos'] e pos :: rest) σ F W A := fun H w E o =>
  tmB_of (pss_cons (ps_set hN hi hx pe_tm hs hf) pss_tm) (h H w _ fun v F' H' g r => (k v F' g.ex r).run o g)
/-- data that no object is needed for -/
inductive Flat : D → V → Prop
  | non : Flat .non .non
  | bl (b : Bool) : Flat (.bl b) (.bl b)
  | int (i : Int) : Flat (.int i) (.int i)
  | str (s : Str) : Flat (.str s) (.str s)
theorem Flat.eq {v v' : V} (f : Flat d v) (r : Rep F v' d) : v' = v := by cases f <;> cases r <;> rfl
theorem Flat.rep {v : V} (f : Flat d v) : Rep F v d := by
  cases f with
  | non => exact .non
  | bl b => exact .bl b
  | int i => exact .int i
  | str s => exact .str s
theorem bl_asgF {i : Nat} {x : Str} {pos' : Pos} {v : V} (h : EvS X e σ F W d W1) (f : Flat d v) (k : BlkS X rest (σ.set i (some v)) F W1 A) (hi : X.N[i]? = some x := by rfl) (hx : Loc X.env.scope x := by first | exact Or.inl rfl | exact Or.inr rfl)
    (hs : swapsWith e (some (.Name x pos')) pos.line X.env = pure false := by rfl) (hN : X.N.Nodup := by first | assumption | decide +kernel) (hf : X.fn x = true ∨ X.env.scope.names.lookup x = some .local := by first | exact .inl rfl | exact .inr rfl) :
    BlkS X (.Assign [.Name x pos'] e pos :: rest) σ F W A := fun H w E o =>
  tmB_of (pss_cons (ps_set hN hi hx pe_tm hs hf) pss_tm) (h H w _ fun v' F' H' g r => by rw [f.eq r]; exact k.run o g.back)
/-- name = [..] on one line: the name is stored within the comprehension -/
theorem bl_asgLc {i : Nat} {x : Str} {pos' : Pos} {own : List (Str × Nat)} {scope : Scope} (h : LcS X elt tg iter ifs scope own σ F W d W1) (k : ∀ v F1, Same F F1 → Rep F1 v d → BlkS X rest (σ.set i (some v)) F1 W1 A) (hi : X.N[i]? = some x := by rfl)
    (hx : X.env.scope.names.lookup x = some .local := by rfl) (hsw : swapsWith (.ListComp elt [⟨tg, iter, ifs, 0⟩] scope p) (some (.Name x pos')) pos.line X.env = pure true := by exact sw_true rfl rfl rfl (by decide +kernel))
    (ok : BlkOk X.N X.env.scope scope own := by exact blkOk_by (by decide +kernel)) (hc : X.calm = true := by rfl) (hN : X.N.Nodup := by first | assumption | decide +kernel) (hs : ∀ x, foldedSetIterable iter X.env x = pure x := by intro _; rfl) :
    BlkS X (.Assign [.Name x pos'] (.ListComp elt [⟨tg, iter, ifs, 0⟩] scope p) pos :: rest) σ F W A := fun H w E o =>
  tmB_of (pss_cons (ps_setLc (g := bG X scope tg) (tt := bTs X scope ifs) (te := bE X scope elt) hc hN hi hx hsw pi_tm ok (fun s H0 C cl fp => ⟨fun pins s1 σ1 H1 v u Q1 I r h => h s H0 C cl fp pins s1 u I r⟩)
    (fun s H0 C cl fp => ⟨fun pins s1 σ1 H1 Q1 I h => h s H0 C cl fp pins s1 I⟩) (fun s H0 C cl fp => ⟨fun pins s1 σ1 H1 Q1 I h => h s H0 C cl fp pins s1 I⟩) hs) pss_tm) (h H w _ fun v F' H' g r => (k v F' g.ex r).run o g)
/-- name = .. where the targets are several, or no name -/
theorem bl_asgT {tg : Expr} (h : EvS X e σ F W d W1) (k : ∀ v F1, Same F F1 → Rep F1 v d → TgT X tg v σ F1 W1 fun σ2 => BlkS X rest σ2 F1 W1 A) (hs : swapsWithSole [tg] e pos.line X.env = pure false := by rfl) (hw : swappedStores [tg] e X.env = pure none := by rfl)
    (h1 : (assignEach [tg] X.env).map (·.2) = [assign tg X.env] := by rfl) : BlkS X (.Assign [tg] e pos :: rest) σ F W A := fun H w E o =>
  tmB_of (pss_cons (ps_asg pe_tm pg_tm hs hw h1) pss_tm) (h H w _ fun v F' H' g r => k v F' g.ex r H' g.st _ fun σ2 q => q.run o g)
theorem bl_if (hc : EvT X c σ F W q W1) (ha : q = true → BlkS X sa σ F W1 { A with nx := fun σ' F' W' => BlkS X rest σ' F' W' A }) (hb : q = false → BlkS X sb σ F W1 { A with nx := fun σ' F' W' => BlkS X rest σ' F' W' A }) :
    BlkS X (.If c sa sb pos :: rest) σ F W A := fun H w E o =>
  tmB_of (pss_cons (ps_if pt_tm pss_tm pss_tm) pss_tm) (hc H w _ fun F' H' g => by
    have o2 : Ok { A with nx := fun σ' F' W' => BlkS X rest σ' F' W' A } F W H { E with nx := tmB X rest E } := ⟨fun σ' F2 W2 H2 g2 q => q.run o g2, o.rt, o.bk, o.ct⟩
    cases q with
    | true => rw [if_pos rfl]; exact (ha rfl).run o2 g.back
    | false => rw [if_neg Bool.false_ne_true]; exact (hb rfl).run o2 g.back)
/-- if .. : (returns), no else: the rest goes on -/
theorem bl_when (hc : EvT X c σ F W q W1) (ha : q = true → BlkS X sa σ F W1 { A with nx := fun σ' F' W' => BlkS X rest σ' F' W' A }) (hb : q = false → BlkS X rest σ F W1 A) : BlkS X (.If c sa [] pos :: rest) σ F W A :=
  bl_if hc ha fun h => bl_nil (hb h)
theorem bl_absurd (h : False) : BlkS X sa σ F W A := h.elim
theorem bl_pass (k : BlkS X rest σ F W A) : BlkS X (.Pass pos :: rest) σ F W A := fun H w E o => tmB_of (pss_cons ps_pass pss_tm) (k.run o (Go.refl w))
theorem bl_brk (h : A.bk σ F W) : BlkS X (.Break pos :: rest) σ F W A := fun H w E o => tmB_of (pss_cons ps_break pss_tm) (o.bk σ F W H (Go.refl w) h)
theorem bl_cnt (h : A.ct σ F W) : BlkS X (.Continue pos :: rest) σ F W A := fun H w E o => tmB_of (pss_cons ps_continue pss_tm) (o.ct σ F W H (Go.refl w) h)
/-- for: I by the number of turns, the slots and the worlds -/
theorem bl_for {n : Nat} (hi : EvI X tg iter σ F W ds W1) (hn : ds.length = n) (I : Nat → L2.St → Hp → Hp → Prop) (h0 : ∀ F1, Same F F1 → I 0 σ F1 W1)
    (hs : ∀ (i : Nat) (d : D), ds[i]? = some d → ∀ σ' F1 W', Same F F1 → I i σ' F1 W' → ∀ v F2, Same F1 F2 → Rep F2 v d → TgT X tg v σ' F2 W' fun σ2 => BlkS X body σ2 F2 W' { nx := I (i + 1), rt := A.rt, bk := fun σ' F' W' => BlkS X rest σ' F' W' A, ct := I (i + 1) })
    (hd : ∀ σ' F1 W', Same F F1 → I n σ' F1 W' → BlkS X rest σ' F1 W' A) (hc : X.calm = true := by rfl) (hp : PassesOwn (model X.prog X.w) X.A X.env X.xe := by exact PassesOwn.never) (hf : ∀ x, foldedSetIterable iter X.env x = pure x := by intro _; rfl) :
    BlkS X (.For tg iter body [] pos :: rest) σ F W A := fun H w E o =>
  tmB_of (pss_cons (ps_for hp hc pi_tm pg_tm pss_tm hf) pss_tm) (hi H w _ fun J G Y F1 H1 g1 wk hG hY => by
    rw [hn] at wk
    refine for_it wk (fun i σ' H' => ∃ F' W', Go F W H F' W' H' ∧ Same F1 F' ∧ I i σ' F' W') ⟨F1, W1, g1, Same.refl F1, h0 F1 g1.ex⟩ ?_ ?_ ?_
    · rintro i σ' H' _ ⟨F', W', g, e, _⟩
      exact hG F' W' H' e g.st
    · rintro i x σ' H' H'' hi' ⟨F', W', g, e, inv⟩ hy
      have hi2 : i < ds.length := by omega
      obtain ⟨F3, g3, r3⟩ := hY i F' W' H' H'' x ds[i] e g.st hy (by simp [hi2])
      refine hs i ds[i] (by simp [hi2]) σ' F' W' g.ex inv x F3 g3.ex r3 H'' g3.st _ fun σ2 q => q H'' g3.st _ ?_
      have gg := g.trans g3
      exact ⟨fun σ4 F4 W4 H4 g4 k => ⟨F4, W4, gg.trans g4, e.trans (g3.ex.trans g4.ex), k⟩, fun d v F4 W4 H4 g4 r k => o.rt d v F4 W4 H4 (gg.trans g4) r k, fun σ4 F4 W4 H4 g4 k => k.run o (gg.trans g4), fun σ4 F4 W4 H4 g4 k => ⟨F4, W4, gg.trans g4, e.trans (g3.ex.trans g4.ex), k⟩⟩
    · rintro σ' H' ⟨F', W', g, e, inv⟩
      exact (hd σ' F' W' g.ex inv).run o g)
/-- over rows of one sort, the state a fold -/
theorem bl_forL {α S : Type} {xs : List α} {f : α → D} (hi : EvI X tg iter σ F W (xs.map f) W1) (st : S → α → S) (s0 : S) (J : S → L2.St → Hp → Hp → Prop) (h0 : ∀ F1, Same F F1 → J s0 σ F1 W1)
    (hs : ∀ pr x po, xs = pr ++ x :: po → ∀ σ' F1 W', Same F F1 → J (pr.foldl st s0) σ' F1 W' → ∀ v F2, Same F1 F2 → Rep F2 v (f x) → TgT X tg v σ' F2 W' fun σ2 =>
      BlkS X body σ2 F2 W' { nx := J (st (pr.foldl st s0) x), rt := A.rt, bk := fun σ' F' W' => BlkS X rest σ' F' W' A, ct := J (st (pr.foldl st s0) x) })
    (hd : ∀ σ' F1 W', Same F F1 → J (xs.foldl st s0) σ' F1 W' → BlkS X rest σ' F1 W' A) (hc : X.calm = true := by rfl) (hp : PassesOwn (model X.prog X.w) X.A X.env X.xe := by exact PassesOwn.never) (hf : ∀ x, foldedSetIterable iter X.env x = pure x := by intro _; rfl) :
    BlkS X (.For tg iter body [] pos :: rest) σ F W A :=
  bl_for (n := xs.length) hi (by rw [List.length_map]) (fun i => J ((xs.take i).foldl st s0)) h0 (fun i d h σ' F1 W' e inv v F2 e2 r => by
    rw [List.getElem?_map, Option.map_eq_some_iff] at h
    obtain ⟨x, hx, rfl⟩ := h
    have hi' := (List.getElem?_eq_some_iff.mp hx).1
    have e1 : (xs.take (i + 1)).foldl st s0 = st ((xs.take i).foldl st s0) x := by rw [List.take_add_one, hx, List.foldl_append]; rfl
    rw [e1]
    refine hs (xs.take i) x (xs.drop (i + 1)) ?_ σ' F1 W' e inv v F2 e2 r
    have hd : xs.drop i = x :: xs.drop (i + 1) := by
      rw [List.drop_eq_getElem_cons hi']
      rw [List.getElem?_eq_getElem hi'] at hx; cases hx; rfl
    rw [← hd, List.take_append_drop]) (fun σ' F1 W' e inv => hd σ' F1 W' e (by rw [List.take_length] at inv; exact inv)) hc hp hf
/-- while: I by a measure -/
theorem bl_while (I : Nat → L2.St → Hp → Hp → Prop) (m0 : Nat) (h0 : I m0 σ F W)
    (hs : ∀ m σ' F1 W', Same F F1 → I m σ' F1 W' → ∃ q W2, EvT X c σ' F1 W' q W2 ∧ (q = true → BlkS X body σ' F1 W2 { nx := fun σ2 F2 W3 => ∃ m', m' < m ∧ I m' σ2 F2 W3, rt := A.rt, bk := fun σ' F' W' => BlkS X rest σ' F' W' A, ct := fun σ2 F2 W3 => ∃ m', m' < m ∧ I m' σ2 F2 W3 }) ∧ (q = false → BlkS X rest σ' F1 W2 A))
    (hp : PassesOwn (model X.prog X.w) X.A X.env X.xe := by exact PassesOwn.never) : BlkS X (.While c body [] pos :: rest) σ F W A := fun H w E o =>
  tmB_of (pss_cons (ps_while hp pt_tm pss_tm) pss_tm) (by
    refine ⟨fun m σ' H' => ∃ F' W', Go F W H F' W' H' ∧ I m σ' F' W', ⟨m0, F, W, Go.refl w, h0⟩, ?_⟩
    rintro m σ' H' ⟨F', W', g, inv⟩
    obtain ⟨q, W2, ht, hb, hr⟩ := hs m σ' F' W' g.ex inv
    refine ht H' g.st _ fun F3 H3 g3 => ?_
    have gg := g.trans g3.back
    cases q with
    | true =>
      rw [if_pos rfl]
      refine ⟨fun σ2 H2 => ∃ m', m' < m ∧ ∃ F' W', Go F W H F' W' H2 ∧ I m' σ2 F' W', fun σ2 H2 h => h, (hb rfl) H3 g3.back.st _ ?_⟩
      exact ⟨fun σ4 F4 W4 H4 g4 ⟨m', hm, k⟩ => ⟨m', hm, F4, W4, gg.trans g4, k⟩, fun d v F4 W4 H4 g4 r k => o.rt d v F4 W4 H4 (gg.trans g4) r k, fun σ4 F4 W4 H4 g4 k => k.run o (gg.trans g4), fun σ4 F4 W4 H4 g4 ⟨m', hm, k⟩ => ⟨m', hm, F4, W4, gg.trans g4, k⟩⟩
    | false =>
      rw [if_neg Bool.false_ne_true]
      exact (hr rfl).run o gg)
end

/-! ## defs -/
/-- what a def makes of what it is handed, the owned cells ahead and behind -/
abbrev Rel := List D → Hp → Hp → D → Hp → Prop
def spG (rel : Rel) : Sp := fun vs H Q _ => ∃ F W ds d W', Wd F W H ∧ Reps F vs ds ∧ rel ds F W d W' ∧ ∀ v F' H', Go F W H F' W' H' → Rep F' v d → Q v H'
/-- nothing owned is written -/
def relP (r : List D → D → Prop) : Rel := fun ds _ W d W' => r ds d ∧ W' = W
structure FnD (P : Program) (w : World) (K : PySem.W.Frag) (mg : Str → Option Value) (base : Heap) (k : Nat) (x : Str) (ps : List Str) (rel : Rel) : Prop where
  ex : ∃ f fd, FnOk P w K mg base CX0 k f fd ps (spG rel) ∧ mg x = some (.ref f) ∧ PySem.W.keepIn K (.ref f) = true ∧ Binds K fd ps []
section
variable {P : Program} {w : World} {K : PySem.W.Frag} {mg : Str → Option Value} {base : Heap}
theorem fn_ok {x qual : Str} {st : Stmt} {f : Addr} {fd : FuncData} {N ps : List Str} {k : Nat} {rel : Rel} (Fu : Fun K x qual st f fd) (S : FnScope N ps (defScope st)) (hl : ∀ ds F W d W', rel ds F W d W' → ds.length = ps.length)
    (hb : ∀ (cdv : Value) (A : Around) (outer : List Env) (s : Shared) (H : Hp) (E : XK), Room k (A.deeper (envOfC qual (defScope st) s.heap.objs.size f cdv)) → ∀ ds W d W' vs F, rel ds F W d W' → Reps F vs ds →
      BlkS (cxOf CX0 P w K mg base N qual (defScope st) f cdv A outer s H E).nox (defBody st) (start N vs) F W { nx := fun _ _ W2 => d = .non ∧ W2 = W', rt := fun d' W2 => d' = d ∧ W2 = W' }) :
    FnOk P w K mg base CX0 (k + 1) f fd ps (spG rel) :=
  Fu.ok S (fun vs H Q E h => by
    obtain ⟨F, W, ds, d, W', hw, hr, hrel, _⟩ := h
    rw [hr.length]; exact hl _ _ _ _ _ hrel) fun cdv A outer s H vs Q E hr h => by
    obtain ⟨F, W, ds, d, W', hw, hv, hrel, hq⟩ := h
    exact ⟨_, pss_tm, hb cdv A outer s H E hr ds W d W' vs F hrel hv H hw _ ⟨fun σ' F' W2 H' g ⟨e1, e2⟩ => by
      subst e1; subst e2; exact hq .non F' H' g .non, fun d' v F' W2 H' g r ⟨e1, e2⟩ => by
      subst e1; subst e2; exact hq v F' H' g r, fun σ' F' W2 H' _ k => k.elim, fun σ' F' W2 H' _ k => k.elim⟩⟩
end
section
variable {X : Cx} {e : Expr} {es : List Expr} {σ : L2.St} {F W W1 W2 : Hp} {d : D} {ds : List D} {pos p : Pos} {k k' : Nat} {x : Str} {ps : List Str} {rel : Rel}
theorem ev_callG (Fn : FnD X.prog X.w X.K X.mg X.base k x ps rel) (hr : Room k X.A) (ha : EvA X (e :: es) σ F W ds W1) (h : ∀ F1, Same F F1 → rel ds F1 W1 d W2) (hg : Gl X x := by rfl) (hdb : (x == ("__debug__" : Str)) = false := by decide)
    (he : starEach (e :: es) X.env = (false, eval e X.env) :: starEach es X.env := by rfl) (hpl : (backTo pos (starEach es X.env)).any (·.1) = false := by rfl) : EvS X (.Call (.Name x p) (e :: es) [] pos) σ F W d W2 := fun H w Q q => by
  obtain ⟨f, fd, hF, hm, hk, hb⟩ := Fn.ex
  refine tm_of (pe_call (E := E0) hF hr hg hm hk hb .nil pass0 pa_tm hdb he hpl) (ha H w _ fun vs F1 H1 g r => ?_)
  show spG rel (vs ++ []) H1 Q _
  rw [List.append_nil]
  exact ⟨F1, W1, ds, d, W2, g.st, r, h F1 g.ex, fun v F' H' g2 r2 => q v F' H' (g.trans g2) r2⟩
theorem ev_call {r : List D → D → Prop} (Fn : FnD X.prog X.w X.K X.mg X.base k x ps (relP r)) (hr : Room k X.A) (ha : EvA X (e :: es) σ F W ds W1) (h : r ds d) (hg : Gl X x := by rfl) (hdb : (x == ("__debug__" : Str)) = false := by decide)
    (he : starEach (e :: es) X.env = (false, eval e X.env) :: starEach es X.env := by rfl) (hpl : (backTo pos (starEach es X.env)).any (·.1) = false := by rfl) : EvS X (.Call (.Name x p) (e :: es) [] pos) σ F W d W1 :=
  ev_callG Fn hr ha (fun _ _ => ⟨h, rfl⟩) hg hdb he hpl
end
end Z
set_option Elab.async false
set_option linter.all false
set_option maxRecDepth 100000
set_option maxHeartbeats 1000000
namespace PySem
open Sem (wp)
set_option maxHeartbeats 2000000 in
theorem z_meets_enum1 {v : Value} {o : Obj} {H : Heap → Prop} (B : Begins v o H) :
    Meets (Builtin.«enumerate.__new__» ⟨[.type "enumerate", v], []⟩) (fun _ R s => H s.heap ∧
      R (.ok (.ret (.ref (s.heap.push o).objs.size))) { s with heap := (s.heap.push o).push { cls := .type "enumerate", data := .fields #[.none, .bool false, .ref s.heap.objs.size, rawInt 0, .none, .none] } }) :=
  .of_wp fun prog w A R s h => by
    obtain ⟨hp, g, d, tk, os⟩ := s; obtain ⟨h1, h⟩ := h
    have hsub := sub_enumerate
    have q1 : ∀ {A' : Around} {E : Value → Shared → Prop} {Q : Value → Shared → Prop}, Q (.ref hp.objs.size) ⟨hp.push o, g, d, tk, os⟩ → wpAny (model prog w) A' (pyIter v) Q E ⟨hp, g, d, tk, os⟩ :=
      fun q => B.iter prog w _ _ ⟨hp, g, d, tk, os⟩ _ h1 q
    wp_walk using q1
    refine wpAny_stack_any fun st => wpAny_pure ?_
    split
    · rename_i c _ _ _ _ _
      cases (c == Value.type "enumerate")
      · wp_walk using q1
        exact ⟨_, rfl, h⟩
      · wp_walk using q1
        exact ⟨_, rfl, h⟩
    · wp_walk using q1
      exact ⟨_, rfl, h⟩
section
variable {prog : Program} {w : World} {A : Around} {E : Value → Shared → Prop} {s : Shared}
theorem z_enum_begins {v : Value} {o : Obj} {H : Heap → Prop} {Q : Value → Shared → Prop} (B : Begins v o H) (h1 : H s.heap)
    (h : ∀ h', IsEnum h' (s.heap.objs.size + 1) s.heap.objs.size 0 .none → h'.get? s.heap.objs.size = some o → h'.objs.size = s.heap.objs.size + 2 →
      (∀ b o, s.heap.get? b = some o → h'.get? b = some o) → Q (.ref (s.heap.objs.size + 1)) { s with heap := h' }) :
    wpAny (model prog w) A (call (.type "enumerate") [v]) Q E s := by
  refine callType_new F.called_enumerate (by decide) (F.typeCall_enumerate_1 _) (F.newCall_enumerate_1 _) (fun obj => F.args_object_init_2 obj _) F.entry_enumerate_new
    (z_meets_enum1 B) ⟨h1, ?_⟩
  have hz : (s.heap.push o).objs.size = s.heap.objs.size + 1 := Heap.size_push ..
  show _ ∧ _
  rw [hz]
  have he : IsEnum ((s.heap.push o).push { cls := .type "enumerate", data := .fields #[.none, .bool false, .ref s.heap.objs.size, rawInt 0, .none, .none] }) (s.heap.objs.size + 1) s.heap.objs.size 0 .none := by
    have := Heap.get?_push_size (s.heap.push o) (o := { cls := .type "enumerate", data := .fields #[.none, .bool false, .ref s.heap.objs.size, rawInt 0, .none, .none] }) rfl
    rw [hz] at this; exact this
  refine ⟨⟨_, he, rfl⟩, h _ he (Heap.get?_push_of_some _ (Heap.get?_push_size _ B.free)) (by rw [Heap.size_push, hz]) fun b o x => Heap.get?_push_of_some _ (Heap.get?_push_of_some _ x)⟩
end
end PySem
namespace Z
open PySem PySem.Spec PyProof.Rows L2
/-- a row that is read: a list, a tuple -/
def SqO (K : PySem.W.Frag) (t : Bool) (H : Hp) (a : Addr) (xs : List V) : Prop := match t with
  | true => SqT K H a xs
  | false => SqL K H a xs
def RI (t : Bool) (h : Heap) (it a : Addr) (i : Nat) : Prop := match t with
  | true => h.IsTupleIter it a i
  | false => h.IsListIter it a i
def RS (t : Bool) (h : Heap) (a : Addr) (items : Array Value) : Prop := match t with
  | true => h.IsTuple a items
  | false => h.IsList a items
def rObj (t : Bool) (a : Addr) : Obj := match t with
  | true => { cls := .type "tuple_iterator", data := .fields #[.ref a, .int 0 0] }
  | false => { cls := .type "list_iterator", data := .fields #[.ref a, .int 0 0] }
theorem ri_at {t : Bool} {h h' : Heap} {it a : Addr} {i : Nat} (x : RI t h it a i) (e : ∀ o, h.get? it = some o → h'.get? it = some o) : RI t h' it a i := by
  cases t with
  | true => exact Heap.IsTupleIter.at x e
  | false => exact Heap.IsListIter.at x e
theorem ri_obj {t : Bool} {h : Heap} {it a : Addr} {i : Nat} (x : RI t h it a i) : ∃ o, h.get? it = some o ∧ ∀ v, o.data ≠ .cell v := by
  cases t with
  | true => obtain ⟨o, e, _, d⟩ := x; exact ⟨o, e, fun v q => by rw [d] at q; cases q⟩
  | false => obtain ⟨o, e, _, d⟩ := x; exact ⟨o, e, fun v q => by rw [d] at q; cases q⟩
theorem ri_start {t : Bool} {h : Heap} {it a : Addr} (e : h.get? it = some (rObj t a)) : RI t h it a 0 := by
  cases t with
  | true => exact ⟨_, e, rfl, rfl⟩
  | false => exact ⟨_, e, rfl, rfl⟩
theorem r_begins (t : Bool) (a : Addr) (items : Array Value) : Begins (.ref a) (rObj t a) fun h => RS t h a items := by
  cases t with
  | true => exact begins_tuple a items
  | false => exact begins_list a items
theorem r_draws {t : Bool} {prog : Program} {w : World} {A : Around} (hh : A.handled = none) (it a : Addr) (hne : a ≠ it) (items : Array Value) :
    Draws prog w A it [it, a] items.size (fun i v => items[i]? = some v) (fun i h => RI t h it a i ∧ RS t h a items) := by
  cases t with
  | true => exact Draws.tuple hh it a hne items
  | false => exact Draws.list hh it a hne items
section
variable {X : Cx} {pins : List (Addr × Obj)} {σ : L2.St} {H : Hp} {s : Shared} {a : Addr} {xs ys : List V} {t : Bool}
theorem sqo_row (I : Inv X pins σ H s) (h : SqO X.K t H a xs) : ∃ its : List Value, Vals xs its ∧ RS t s.heap a its.toArray ∧ xs.length ≤ sizeLine := by
  cases t with
  | true =>
    obtain ⟨its, r, p, z⟩ := I.tuple h
    exact ⟨its, r, p, z⟩
  | false =>
    obtain ⟨its, r, p, z⟩ := I.list h
    exact ⟨its, r, p.isList, z⟩
theorem sqo_inj (I : Inv X pins σ H s) (h : SqO X.K t H a xs) (h' : SqO X.K t H a ys) : xs = ys := by
  cases t with
  | true => exact I.tuple_inj h h'
  | false => exact I.list_inj h h'
theorem rs_lt {h : Heap} {items : Array Value} (x : RS t h a items) : a < h.objs.size := by
  cases t with
  | true => obtain ⟨o, e, _⟩ := x; exact Heap.lt_size e
  | false => obtain ⟨o, e, _⟩ := x; exact Heap.lt_size e
end
/-! ### zip of rows of any kinds -/
def ItzG (K : PySem.W.Frag) (t u : Bool) (a b : Addr) : It :=
  ⟨fun i H => ∃ (xs ys : List V) (x y : V), SqO K t H a xs ∧ SqO K u H b ys ∧ xs[i]? = some x ∧ ys[i]? = some y,
    fun i H v H' => ∃ T x y, v = .ref T ∧ H T = none ∧ H' = upd H T (.tup [x, y]) ∧ (∀ xs, SqO K t H a xs → xs[i]? = some x) ∧ ∀ ys, SqO K u H b ys → ys[i]? = some y,
    fun i H => ∃ xs ys : List V, SqO K t H a xs ∧ SqO K u H b ys ∧ i ≤ xs.length ∧ i ≤ ys.length ∧ (xs.length = i ∨ ys.length = i)⟩
theorem turn_zipG {P : Program} {w : World} {K : PySem.W.Frag} {elts : List Expr} {kk : Nat} {tpos : Pos} {t u : Bool} {a b z TI TO i1 i2 : Addr} (D : ZipSep2 z TI TO i1 i2 [i1, a] [i2, b]) (h1a : a ≠ i1) (h2b : b ≠ i2) :
    Turn P w K (.Tuple elts kk tpos) (ItzG K t u a b) [z, TI, TO, i1, i2] z (fun i h => IsZip h z TI TO .none ∧ IsTupOf2 h TI (.ref i1) (.ref i2) ∧ (∃ x y, IsTupOf2 h TO x y) ∧ RI t h i1 a i ∧ RI u h i2 b i) where
  mem := by simp
  obj := fun i h st c hc => by
    obtain ⟨hz, hTI, ⟨x, y, hTO⟩, r1, r2⟩ := st
    have e' : c = z ∨ c = TI ∨ c = TO ∨ c = i1 ∨ c = i2 := by simpa using hc
    rcases e' with q | q | q | q | q
    · rw [q]; exact ⟨_, hz, fun v q => nomatch q⟩
    · rw [q]; exact ⟨_, hTI, fun v q => nomatch q⟩
    · rw [q]; exact ⟨_, hTO, fun v q => nomatch q⟩
    · rw [q]; exact ri_obj r1
    · rw [q]; exact ri_obj r2
  keep := fun i h h' st k => by
    obtain ⟨hz, hTI, ⟨x, y, hTO⟩, r1, r2⟩ := st
    exact ⟨k z (by simp) _ hz, k TI (by simp) _ hTI, ⟨x, y, k TO (by simp) _ hTO⟩, ri_at r1 fun o q => k i1 (by simp) o q, ri_at r2 fun o q => k i2 (by simp) o q⟩
  item := by
    intro X hP hw hK hc i pins s σ H E I hf st hg
    subst hP hw hK
    obtain ⟨hz, hTI, ⟨x0, y0, hTO⟩, r1, r2⟩ := st
    obtain ⟨xs, ys, x, y, hqx, hqy, hx, hy⟩ := hg
    obtain ⟨its, rv, p, _⟩ := sqo_row I hqx
    obtain ⟨its2, rv2, p2, _⟩ := sqo_row I hqy
    obtain ⟨v1, hv1, ru⟩ := rv.get hx
    obtain ⟨v2, hv2, ru2⟩ := rv2.get hy
    have hzl : z < s.heap.objs.size := Heap.lt_size hz
    have hh := I.ok.hd hc
    have hh1 : X.A.in1.handled = none := hh
    refine wpAny_pyNext_zipD2_item D (r_draws hh1 i1 a h1a its.toArray) (r_draws hh1 i2 b h2b its2.toArray) hz hTI hTO ⟨r1, p⟩ ⟨r2, p2⟩ (by simpa using (List.getElem?_eq_some_iff.mp hv1).1) (by simpa using (List.getElem?_eq_some_iff.mp hv2).1) fun x1 x2 h' tk P1 P2 z' TO' r1' r2' hT hsz hk => ?_
    have e1 : x1 = v1 := by have P1 : its.toArray[i]? = some x1 := P1; simp at P1; rw [hv1] at P1; exact (Option.some.inj P1).symm
    have e2 : x2 = v2 := by have P2 : its2.toArray[i]? = some x2 := P2; simp at P2; rw [hv2] at P2; exact (Option.some.inj P2).symm
    subst e1 e2
    refine ⟨_, rfl, wpAny_letOwnedTupleGo_zip (s := { s with heap := h', toks := tk }) z' fun h'' z'' sb => ?_⟩
    have hT2 : h''.get? s.heap.objs.size = some { cls := .type "tuple", data := .seq #[x1, x2] } := (sb.2 _ (Nat.ne_of_gt hzl)).trans hT
    have new : ObjOk X.prog X.w (upd H s.heap.objs.size (.tup [x, y])) h'' s.heap.objs.size (.tup [x, y]) :=
      ⟨by show 2 ≤ sizeLine; decide, [x1, x2], .cons ru (.cons ru2 .nil), ⟨_, hT2, rfl, _, rfl⟩⟩
    have I1 : Inv X pins σ (upd H s.heap.objs.size (.tup [x, y])) { s with heap := h'', toks := tk } :=
      I.turnedNew (t' := tk) (ch := [z, TI, TO, i1, i2]) (fun c o hb q => (sb.2 c (fun q' => hb (by simp [q']))).trans (hk c o (fun q' => hb (by simp [q'])) (fun q' => hb (by simp [q'])) (fun q' => hb (by simp [q'])) (fun q' => hb (by simp [q'])) q)) hf (Nat.le_refl _) new
    have i1z : i1 ≠ z := fun e => D.zf1 (by simp [e])
    have i2z : i2 ≠ z := fun e => D.zf2 (by simp [e])
    refine ⟨.ref s.heap.objs.size, _, I1, rfl, ⟨_, x, y, rfl, I.hok.fresh (Nat.le_refl _), rfl, fun l hl => by rw [sqo_inj I hl hqx]; exact hx, fun l hl => by rw [sqo_inj I hl hqy]; exact hy⟩, ⟨z'', ?_, ⟨x1, x2, ?_⟩, ?_, ?_⟩, fun c hcm => ?_⟩
    · exact (sb.2 _ D.TIz).trans (hk _ _ D.TIz D.TITO D.TIi1 D.TIi2 hTI)
    · exact (sb.2 _ D.TOz).trans TO'
    · exact ri_at r1'.1 fun o q => (sb.2 _ i1z).trans q
    · exact ri_at r2'.1 fun o q => (sb.2 _ i2z).trans q
    · have hlt : c < s.heap.objs.size := by
        have e' : c = z ∨ c = TI ∨ c = TO ∨ c = i1 ∨ c = i2 := by simpa using hcm
        rcases e' with q | q | q | q | q
        · rw [q]; exact hzl
        · rw [q]; exact Heap.lt_size hTI
        · rw [q]; exact Heap.lt_size hTO
        · rw [q]; obtain ⟨_, e1, _⟩ := ri_obj r1; exact Heap.lt_size e1
        · rw [q]; obtain ⟨_, e2, _⟩ := ri_obj r2; exact Heap.lt_size e2
      rw [upd_ne (Nat.ne_of_lt hlt)]
      exact (hf c hcm).1
  done := by
    intro X hP hw hK hc i pins s σ H E I hf st hg
    subst hP hw hK
    obtain ⟨hz, hTI, ⟨x0, y0, hTO⟩, r1, r2⟩ := st
    obtain ⟨xs, ys, hqx, hqy, hl1, hl2, hend⟩ := hg
    obtain ⟨its, rv, p, _⟩ := sqo_row I hqx
    obtain ⟨its2, rv2, p2, _⟩ := sqo_row I hqy
    have l1 := rv.length
    have l2 := rv2.length
    have hh1 : X.A.in1.handled = none := I.ok.hd hc
    exact wpAny_pyNext_zipD2_end D (r_draws hh1 i1 a h1a its.toArray) (r_draws hh1 i2 b h2b its2.toArray) hz hTI hTO ⟨r1, p⟩ ⟨r2, p2⟩ (by simp; omega) (by simp; omega) (by simp; omega) fun h' tk hk => ⟨rfl, I.turnedL (t' := tk) (ch := [z, TI, TO, i1, i2]) (fun c o hb q =>
      hk c o (fun q' => hb (by simp [q'])) (fun q' => hb (by simp [q'])) (fun q' => hb (by simp [q'])) (fun q' => hb (by simp [q'])) q) hf⟩
  self := fun A i s Q E st h => wpAny_pyIter_zip st.1 h
def iZipG (K : PySem.W.Frag) (ta : TA) : TI := fun σ H R => ta σ H fun vs H1 => ∃ t u a b xs ys, vs = [.ref a, .ref b] ∧ SqO K t H1 a xs ∧ SqO K u H1 b ys ∧ R (ItzG K t u a b) H1
theorem pi_zipG {X : Cx} {e e2 : Expr} {ta : TA} {p pos tpos : Pos} {elts : List Expr} {kk : Nat} (hg : Gl X "zip") (hm : X.mg "zip" = none) (ha : PA X [e, e2] ta)
    (hs : starEach [e, e2] X.env = (false, eval e X.env) :: starEach [e2] X.env := by rfl) (hpl : (backTo pos (starEach [e2] X.env)).any (·.1) = false := by rfl) :
    PI X (.Tuple elts kk tpos) (.Call (.Name "zip" p) [e, e2] [] pos) (iZipG X.K ta) := by
  refine ⟨fun pins s σ H R I h => ?_⟩
  refine Call_ (ld_blt I hg hm PyProof.Rows.boot_zip (PyProof.Rows.callWith_type1 (thn (ha.run pos pins s σ H _ I h) fun us s1 ⟨vs, H1, I1, r1, q1⟩ => ?_) hs hpl))
  obtain ⟨t, u, a, b, xs, ys, ex, hqx, hqy, q⟩ := q1
  subst ex
  cases r1 with
  | cons r rr =>
    cases rr with
    | cons r' rr =>
      cases rr
      cases r
      cases r'
      have fresh5 : ∀ c, c ∈ [s1.heap.objs.size + 4, s1.heap.objs.size + 2, s1.heap.objs.size + 3, s1.heap.objs.size, s1.heap.objs.size + 1] → FpOk X pins H1 c := fun c hcm => by
        have e' : c = s1.heap.objs.size + 4 ∨ c = s1.heap.objs.size + 2 ∨ c = s1.heap.objs.size + 3 ∨ c = s1.heap.objs.size ∨ c = s1.heap.objs.size + 1 := by simpa using hcm
        have hle : s1.heap.objs.size ≤ c := by
          rcases e' with z | z | z | z | z
          · rw [z]; exact Nat.le_add_right _ _
          · rw [z]; exact Nat.le_add_right _ _
          · rw [z]; exact Nat.le_add_right _ _
          · rw [z]; exact Nat.le_refl _
          · rw [z]; exact Nat.le_add_right _ _
        exact I1.fpOk hle (I1.hok.fresh hle)
      obtain ⟨its, rv, p1, _⟩ := sqo_row I1 hqx
      obtain ⟨its2, rv2, p2, _⟩ := sqo_row I1 hqy
      have la := rs_lt p1
      have lb := rs_lt p2
      refine zip_begins2 (r_begins t a its.toArray) (r_begins u b its2.toArray) p1 p2 fun h' hz hTI hTO h1 h2 hsz hk => wpAny_pyIter_zip hz ?_
      have I2 : Inv X pins σ H1 { s1 with heap := h' } := I1.kept (t' := s1.toks) hk
      exact ⟨s1.heap.objs.size + 4, [s1.heap.objs.size + 4, s1.heap.objs.size + 2, s1.heap.objs.size + 3, s1.heap.objs.size, s1.heap.objs.size + 1], _, _, H1, rfl, I2,
        turn_zipG (zip_sep2 (N := s1.heap.objs.size) (fp1 := [a]) (fp2 := [b]) (fun c hc => by simp at hc; rw [hc]; exact la) (fun c hc => by simp at hc; rw [hc]; exact lb)) (Nat.ne_of_lt la) (Nat.ne_of_lt (Nat.lt_succ_of_lt lb)), ⟨hz, hTI, ⟨_, _, hTO⟩, ri_start h1, ri_start h2⟩, fresh5, q⟩
/-! ### enumerate of a row of any kind -/
def IteG (K : PySem.W.Frag) (t : Bool) (a : Addr) : It :=
  ⟨fun i H => ∃ (xs : List V) (x : V), SqO K t H a xs ∧ xs[i]? = some x, fun i H v H' => ∃ T x, v = .ref T ∧ H T = none ∧ H' = upd H T (.tup [.int (i : Nat), x]) ∧ ∀ xs, SqO K t H a xs → xs[i]? = some x,
    fun i H => ∃ xs : List V, SqO K t H a xs ∧ xs.length = i⟩
theorem turn_enumG {P : Program} {w : World} {K : PySem.W.Frag} {elts : List Expr} {kk : Nat} {tpos : Pos} {t : Bool} (a e it : Addr) (hai : a ≠ it) (hae : e ≠ a) :
    Turn P w K (.Tuple elts kk tpos) (IteG K t a) [e, it] e (fun i h => (∃ old, IsEnum h e it ((i : Nat) : Int) old) ∧ RI t h it a i ∧ e ≠ it) where
  mem := by simp
  obj := fun i h st b hb => by
    obtain ⟨⟨old, he⟩, r1, _⟩ := st
    have e' : b = e ∨ b = it := by simpa using hb
    rcases e' with z | z
    · rw [z]; exact ⟨_, he, fun v q => nomatch q⟩
    · rw [z]; exact ri_obj r1
  keep := fun i h h' st k => let ⟨⟨old, he⟩, hi, hne⟩ := st; ⟨⟨old, k e (by simp) _ he⟩, ri_at hi fun o q => k it (by simp) o q, hne⟩
  item := by
    intro X hP hw hK hc i pins s σ H E I hf st hg
    subst hP hw hK
    obtain ⟨⟨old, he⟩, hit, hne⟩ := st
    obtain ⟨xs, x, hq, hx⟩ := hg
    obtain ⟨its, rv, p, hz⟩ := sqo_row I hq
    obtain ⟨u, hu, ru⟩ := rv.get hx
    have hel : e < s.heap.objs.size := Heap.lt_size he
    have hil : it < s.heap.objs.size := by obtain ⟨_, q, _⟩ := ri_obj hit; exact Heap.lt_size q
    have hh1 : X.A.in1.handled = none := I.ok.hd hc
    refine wpAny_pyNext_enum_itemD (r_draws hh1 it a hai its.toArray) he ⟨hit, p⟩ (by simpa using (List.getElem?_eq_some_iff.mp hu).1) hne (fun q => by
      rcases List.mem_cons.mp q with z | z
      · exact hne z
      · exact hae (List.mem_singleton.mp z)) fun x1 h' tk P1 ho hit' hT hsz hk => ?_
    have e1 : x1 = u := by have P1 : its.toArray[i]? = some x1 := P1; simp at P1; rw [hu] at P1; exact (Option.some.inj P1).symm
    subst e1
    refine ⟨_, rfl, wpAny_letOwnedTupleGo_enum (s := { s with heap := h', toks := tk + 1 }) ho fun h'' he' sb => ?_⟩
    have hT2 : h''.get? s.heap.objs.size = some { cls := .type "tuple", data := .seq #[.int i tk, x1] } := (sb.2 _ (Nat.ne_of_gt hel)).trans hT
    have new : ObjOk X.prog X.w (upd H s.heap.objs.size (.tup [.int (i : Nat), x])) h'' s.heap.objs.size (.tup [.int (i : Nat), x]) :=
      ⟨by show 2 ≤ sizeLine; decide, [.int i tk, x1], .cons ⟨_, rfl⟩ (.cons ru .nil), ⟨_, hT2, rfl, _, rfl⟩⟩
    have I1 : Inv X pins σ (upd H s.heap.objs.size (.tup [.int (i : Nat), x])) { s with heap := h'', toks := tk + 1 } :=
      I.turnedNew (ch := [e, it]) (fun b ob hb q => (sb.2 b (fun z => hb (by simp [z]))).trans (hk b ob (fun z => hb (by simp [z])) (fun z => hb (by simp [z])) q)) hf (Nat.le_refl _) new
    refine ⟨.ref s.heap.objs.size, _, I1, rfl, ⟨_, x, rfl, I.hok.fresh (Nat.le_refl _), rfl, fun ys hy => by rw [sqo_inj I hy hq]; exact hx⟩, ⟨⟨x1, ?_⟩, ri_at hit'.1 fun o q => (sb.2 it (Ne.symm hne)).trans q, hne⟩, fun b hb => ?_⟩
    · have e1 : ((i + 1 : Nat) : Int) = (i : Int) + 1 := by omega
      rw [e1]; exact he'
    · have hb' : b < s.heap.objs.size := by
        have e' : b = e ∨ b = it := by simpa using hb
        rcases e' with z | z
        · rw [z]; exact hel
        · rw [z]; exact hil
      rw [upd_ne (Nat.ne_of_lt hb')]
      exact (hf b hb).1
  done := by
    intro X hP hw hK hc i pins s σ H E I hf st hg
    subst hP hw hK
    obtain ⟨⟨old, he⟩, hit, hne⟩ := st
    obtain ⟨xs, hq, hx⟩ := hg
    obtain ⟨its, rv, p, hz⟩ := sqo_row I hq
    obtain ⟨f0, f1, f2, f3, f4, f5⟩ := hf it (by simp)
    have hl := rv.length
    have hh1 : X.A.in1.handled = none := I.ok.hd hc
    have e0 : i = its.toArray.size := by simp; omega
    exact wpAny_pyNext_enum_endD (r_draws hh1 it a hai its.toArray) he (by rw [← e0]; exact ⟨hit, p⟩) fun h' eb => ⟨rfl, I.turned (t' := s.toks) (fun b o hb q => eb b o hb q) f0 f1 f3 f4 f5⟩
  self := fun A i s Q E st h => let ⟨⟨_, he⟩, _⟩ := st; wpAny_pyIter_enum he h
def iEnumG (K : PySem.W.Frag) (ta : TA) : TI := fun σ H R => ta σ H fun vs H1 => ∃ t a xs, vs = [.ref a] ∧ SqO K t H1 a xs ∧ R (IteG K t a) H1
theorem pi_enumG {X : Cx} {e : Expr} {ta : TA} {p pos tpos : Pos} {elts : List Expr} {kk : Nat} (hg : Gl X "enumerate") (hm : X.mg "enumerate" = none) (ha : PA X [e] ta) (hs : starEach [e] X.env = [(false, eval e X.env)] := by rfl) :
    PI X (.Tuple elts kk tpos) (.Call (.Name "enumerate" p) [e] [] pos) (iEnumG X.K ta) := by
  refine ⟨fun pins s σ H R I h => ?_⟩
  refine Call_ (ld_blt I hg hm PyProof.Rows.boot_enumerate (PyProof.Rows.callWith_type1 (thn (ha.run pos pins s σ H _ I h) fun us s1 ⟨vs, H1, I1, r1, q1⟩ => ?_) hs rfl))
  obtain ⟨t, a, xs, ex, hq, q⟩ := q1
  subst ex
  cases r1 with
  | cons r rr =>
    cases rr
    cases r
    obtain ⟨its, rv, p', hz⟩ := sqo_row I1 hq
    have la := rs_lt p'
    refine z_enum_begins (r_begins t a its.toArray) p' fun h' he hit hsz hk => wpAny_pyIter_enum he ?_
    have I2 : Inv X pins σ H1 { s1 with heap := h' } := I1.kept (t' := s1.toks) hk
    refine ⟨s1.heap.objs.size + 1, [s1.heap.objs.size + 1, s1.heap.objs.size], _, _, H1, rfl, I2, turn_enumG a (s1.heap.objs.size + 1) s1.heap.objs.size (Nat.ne_of_lt la) (Nat.ne_of_gt (Nat.lt_succ_of_lt la)), ⟨⟨.none, he⟩, ri_start hit, Nat.succ_ne_self _⟩, fun b hb => ?_, q⟩
    have e' : b = s1.heap.objs.size + 1 ∨ b = s1.heap.objs.size := by simpa using hb
    have hle : s1.heap.objs.size ≤ b := by
      rcases e' with z | z
      · rw [z]; exact Nat.le_add_right _ _
      · rw [z]; exact Nat.le_refl _
    exact I1.fpOk hle (I1.hok.fresh hle)
section
variable {X : Cx} {a b : Expr} {σ : L2.St} {F W W1 : Hp} {pos p tpos : Pos} {elts : List Expr} {kk : Nat}
theorem sqo_of {K : PySem.W.Frag} {F W H : Hp} {t : Bool} {l : Addr} {vs : List V} (w : Wd F W H) (h : F l = some (sqO t vs)) : SqO K t H l vs := by
  cases t with
  | true => exact SqT.of (w.tup h)
  | false => exact SqL.of (w.lst h)
theorem ei_enum {t : Bool} {xs : List D} (hm : X.mg "enumerate" = none) (h : EvA X [a] σ F W [.sq t xs] W1) (hg : Gl X "enumerate" := by rfl) (hs : starEach [a] X.env = [(false, eval a X.env)] := by rfl) :
    EvI X (.Tuple elts kk tpos) (.Call (.Name "enumerate" p) [a] [] pos) σ F W (enumD xs) W1 := fun H w R q =>
  tmI_of (pi_enumG hg hm pa_tm hs) (h H w _ fun v F1 H1 g r => by
    cases r with
    | cons r t' =>
    cases t'
    obtain ⟨l, vs, rfl, h1, s1, z1⟩ := r.sq_inv
    have el : (enumD xs).length = vs.length := by unfold enumD; rw [List.length_map, List.length_zipIdx, s1.length]
    refine ⟨t, l, vs, rfl, sqo_of g.st h1, q _ (fun H => SqO X.K t H l vs) (fun i H x H' => ∃ T y, x = .ref T ∧ H T = none ∧ H' = upd H T (.tup [.int (i : Nat), y]) ∧ vs[i]? = some y) F1 H1 g ?_ (fun F2 W2 H2 e w2 => sqo_of w2 (e _ _ h1)) fun i F2 W2 H2 H3 x d e w2 y hd => ?_⟩
    · rw [el]
      exact ⟨fun i H hi hq => ⟨vs, vs[i], hq, by simp [hi]⟩, fun H hq => ⟨vs, hq, rfl⟩, fun i H x H' hi hq ⟨T, y, e1, e2, e3, e4⟩ => ⟨T, y, e1, e2, e3, e4 vs hq⟩⟩
    · rw [enumD_get, Option.map_eq_some_iff] at hd
      obtain ⟨d', hd', rfl⟩ := hd
      obtain ⟨T, y, rfl, hT, rfl, hy⟩ := y
      obtain ⟨d2, hd2, r2⟩ := s1.get hy
      rw [hd'] at hd2; cases hd2
      exact ⟨_, Go.new w2 hT, Go.rep_new (t := true) w2 hT (.cons (.int _) (.cons (r2.mono e) .nil)) (by simp)⟩)
theorem ei_zipG {t u : Bool} {xs ys : List D} (hm : X.mg "zip" = none) (h : EvA X [a, b] σ F W [.sq t xs, .sq u ys] W1) (hg : Gl X "zip" := by rfl) (hs : starEach [a, b] X.env = (false, eval a X.env) :: starEach [b] X.env := by rfl) (hpl : (backTo pos (starEach [b] X.env)).any (·.1) = false := by rfl) :
    EvI X (.Tuple elts kk tpos) (.Call (.Name "zip" p) [a, b] [] pos) σ F W (zipD xs ys) W1 := fun H w R q =>
  tmI_of (pi_zipG hg hm pa_tm hs hpl) (h H w _ fun v F1 H1 g r => by
    cases r with
    | cons r t' =>
    cases t' with
    | cons r2 t' =>
    cases t'
    obtain ⟨l, vs, rfl, h1, s1, z1⟩ := r.sq_inv
    obtain ⟨l2, us, rfl, h2, s2, z2⟩ := r2.sq_inv
    have el : (zipD xs ys).length = min vs.length us.length := by unfold zipD; rw [List.length_map, List.length_zip, s1.length, s2.length]
    refine ⟨t, u, l, l2, vs, us, rfl, sqo_of g.st h1, sqo_of g.st h2, q _ (fun H => SqO X.K t H l vs ∧ SqO X.K u H l2 us) (fun i H x H' => ∃ T y z, x = .ref T ∧ H T = none ∧ H' = upd H T (.tup [y, z]) ∧ vs[i]? = some y ∧ us[i]? = some z) F1 H1 g ?_ (fun F2 W2 H2 e w2 => ⟨sqo_of w2 (e _ _ h1), sqo_of w2 (e _ _ h2)⟩) fun i F2 W2 H2 H3 x d e w2 y hd => ?_⟩
    · rw [el]
      refine ⟨fun i H hi hq => ?_, fun H hq => ⟨vs, us, hq.1, hq.2, by omega, by omega, by omega⟩, fun i H x H' hi hq ⟨T, y, z, e1, e2, e3, e4, e5⟩ => ⟨T, y, z, e1, e2, e3, e4 vs hq.1, e5 us hq.2⟩⟩
      have h1 : i < vs.length := by omega
      have h2 : i < us.length := by omega
      exact ⟨vs, us, vs[i], us[i], hq.1, hq.2, by simp [h1], by simp [h2]⟩
    · unfold zipD at hd
      rw [List.getElem?_map, Option.map_eq_some_iff] at hd
      obtain ⟨⟨da, db⟩, hd', rfl⟩ := hd
      rw [List.getElem?_zip_eq_some] at hd'
      obtain ⟨T, y, z, rfl, hT, rfl, hy, hz⟩ := y
      obtain ⟨d1, hd1, q1⟩ := s1.get hy
      obtain ⟨d2, hd2, q2⟩ := s2.get hz
      rw [hd'.1] at hd1; cases hd1
      rw [hd'.2] at hd2; cases hd2
      exact ⟨_, Go.new w2 hT, Go.rep_new (t := true) w2 hT (.cons (q1.mono e) (.cons (q2.mono e) .nil)) (by simp)⟩)
end
end Z
set_option Elab.async false
set_option linter.all false
set_option maxRecDepth 100000
set_option maxHeartbeats 1000000
namespace PySem.W
open PySem PySem.Calls PyProof.Rows Builtin
section
variable {prog : Program} {w : World} {A : Around} {E : Value → Shared → Prop} {s : Shared} {K : Frag} {x C L f : Addr} {h₀ : Heap} {m : Str → Option Value} {ox : Obj} {od : Option Obj} {name : Str} {b tb : Value}
theorem z_ifBound_B {M : Model} {id : String} {args : List Value} {Q : Option Value → Shared → Prop} (X : K.In s.heap) (I : InstAt s.heap x ox C od) (hs : findIn K (.ref C) name = some (some (.builtin id)))
    (hb : ∀ self, bindSpecial (.builtin id) self = pure (.builtin id, [self])) (h : wpAny M A (call (.builtin id) (.ref x :: args)) (fun v => Q (some v)) E s) : wpAny M A (callSpecialIfBound? (.ref x) name args) Q E s := by
  simp only [callSpecialIfBound?, bindSpecialIfBound?]
  refine wpAny_holding (wpAny_bind (wpAny_bind (wpAny_bind (I.type.here ((looks_findIn X hs).here ?_)))))
  refine wpAny_bind (wpAny_askSetting (wpAny_ite ?_))
  have fin : wpAny M A (call (.builtin id) ([.ref x] ++ args) >>= fun v => pure (some v)) Q E s := wpAny_bind (wpAny_mono h (fun v s' h' => wpAny_pure h') fun _ _ h' => h')
  split
  · exact wpAny_bind ((Looks.of_pure (hb _)).here (wpAny_pure (by exact fin)))
  · exact wpAny_tryCatch (wpAny_bind ((Looks.of_pure (hb _)).here (wpAny_pure (by exact fin))))
theorem z_check_ne {M : Model} {Q : Unit → Shared → Prop} (X : K.In s.heap) (I : InstAt s.heap x ox C od) (hm : mroIn K C (.type "object") = some true) (hq : Q () s) : wpAny M A (checkBuiltinCall "object.__ne__" ⟨.ref x :: [b], []⟩) Q E s := by
  simp only [checkBuiltinCall, PySem.F.cmpKind_ne, PySem.F.cmpSplit_ne]
  refine wpAny_bind ?_
  unfold isInstance
  refine wpAny_bind (I.type.here ((looks_mroIn X hm).here ?_))
  have ha := PySem.F.cmpArgs_ne (.ref x) b
  cases hsig : Manifest.signature? "object.__ne__" with
  | none => exact wpAny_pure hq
  | some sig =>
    simp only [argsOk, hsig] at ha
    show wpAny M A (Bind.checkArgs "object.__ne__" sig ⟨.ref x :: [b], []⟩) Q E _
    rw [ha]; exact wpAny_pure hq
theorem z_ne_bind (self : Value) : bindSpecial (.builtin "object.__ne__") self = pure (.builtin "object.__ne__", [self]) :=
  (Slot.of (T := "object") (name := "__ne__") (owner := "object") (n := "__ne__") (by rw [typeLookup_type, builtinLookup_eq_fast]; kernel_rfl) (by decide +kernel) (by decide +kernel) (by decide +kernel)
    (.inl (by decide +kernel)) (by rw [isSubtype_type]; kernel_rfl)).bind self
/-- a != b by an own __eq__, no __ne__ -/
theorem z_ne_K {Q : Value → Shared → Prop} (hu : A.units + 1 < cLine) (F : Fr h₀ L s.heap m) (X₀ : K.In h₀) (I : InstAt s.heap x ox C od) (hb : Looks (model prog w) s.heap (typeOf b) tb) (hn : notFirst K C tb = true)
    (hne : findIn K (.ref C) "__ne__" = some (some (.builtin "object.__ne__"))) (hm : mroIn K C (.type "object") = some true) (hs : findIn K (.ref C) "__eq__" = some (some (.ref f))) (hf : isFn K (.ref f) = true) (hpl : plainId "object.__ne__" = true)
    (h : wpAny (model prog w) A.in1 (call (.ref f) [.ref x, b]) (fun v s' => ∃ k, v = .bool k ∧ Q (.bool (!k)) s') E s) : wpAny (model prog w) A (richCompare .NotEq (.ref x) b) Q E s := by
  have X := X₀.keeps F.keep
  have hu1 : A.in1.units < cLine := hu
  have one : wpAny (model prog w) A (tryCompare (.ref x) "__ne__" b) (fun r s' => ∃ v, r = some v ∧ Q v s') E s := by
    unfold tryCompare
    refine wpAny_bind (z_ifBound_B X I hne z_ne_bind (wpAny_call (codeAny_call_builtin hpl PySem.F.cmpEntry_ne (z_check_ne X I hm ?_))))
    unfold Builtin.«object.__ne__»
    repeat (first
      | with_reducible refine wpAny_cRoomFor hu1 ?_
      | (refine wpAny_bind (m := callSpecialIfBound? (.ref x) (Str.ofString "__eq__") [b]) (ifBound_K X I hs hf (wpAny_mono h (fun r s' hr => by
          obtain ⟨k, rfl, hq⟩ := hr
          repeat (first
            | (refine wpAny_bind (m := truthy (.bool _)) (wpAny_truthy_bool ?_))
            | exact ⟨_, rfl, hq⟩ | exact ⟨_, rfl, wpAny_pure hq⟩ | exact wpAny_pure ⟨_, rfl, hq⟩ | exact ⟨_, rfl, wpAny_pure ⟨_, rfl, hq⟩⟩ | exact wpAny_pure ⟨_, rfl, wpAny_pure ⟨_, rfl, hq⟩⟩ | wp_step)) fun _ _ y => y)))
      | wp_step)
  unfold richCompare
  simp only [oneThing_ref]
  rw [cmpInfo_NotEq]
  refine wpAny_holding (wpAny_bind (wpAny_cRoomFor (Nat.lt_of_succ_lt hu) ?_))
  refine wpAny_bind (I.type.here (wpAny_bind (hb.here ?_)))
  dsimp only
  split
  · rename_i q
    have e : subIn K tb (.ref C) = some false := by
      rcases Bool.or_eq_true_iff.mp hn with e | e
      · rw [beq_iff_eq.mp e] at q; simp at q
      · exact beq_iff_eq.mp e
    refine wpAny_bind ((looks_subIn X e).here ?_)
    simp only [Bool.false_eq_true, if_false]
    refine wpAny_bind (wpAny_mono one (fun r s' z => ?_) fun _ _ e => e)
    obtain ⟨v, rfl, hq⟩ := z
    exact wpAny_pure hq
  · refine wpAny_bind (wpAny_pure ?_)
    simp only [Bool.false_eq_true, if_false]
    refine wpAny_bind (wpAny_mono one (fun r s' z => ?_) fun _ _ e => e)
    obtain ⟨v, rfl, hq⟩ := z
    exact wpAny_pure hq
end
end PySem.W
namespace ZBool
open PySem PyProof.Rows
open PySem.Sem (wp)
section
variable {prog : Program} {w : World}
theorem meets_bool {v : Value} : MeetsIn prog w (Builtin.«bool.__new__» ⟨[.type "bool", v], []⟩) (fun A R s => wpAny (model prog w) A.in1 (truthy v) (fun k s' => ∀ tk, R (.ok (.ret (.bool k))) { s' with toks := tk }) (fun e s' => R (.error e) s') s) :=
  MeetsIn.of_wp fun A R s hs => by
    obtain ⟨hp, g, d, tk, os⟩ := s
    have f1 := F.conv_sub_bool
    repeat (any_goals (first | assumption | (with_reducible refine wpAny_mono hs (fun k s' hk => ?_) fun _ _ y => y) | wp_step))
    all_goals first | exact ⟨_, rfl, hk _⟩ | skip
theorem call_bool {A : Around} {E : Value → Shared → Prop} {s : Shared} {v : Value} {Q : Value → Shared → Prop} (h : wpAny (model prog w) A.in1.in1 (truthy v) (fun k s' => ∀ tk, Q (.bool k) { s' with toks := tk }) E s) : wpAny (model prog w) A (call (.type "bool") [v]) Q E s :=
  callType_newIn F.called_bool F.newNe_bool (F.typeCall_bool_1 v) (F.newCall_bool_1 v) (fun obj => F.args_object_init_2 obj v) F.entry_bool_new meets_bool (wpAny_mono h (fun k s' hk tk => ⟨rfl, hk tk⟩) fun _ _ y => y)
end
end ZBool
set_option Elab.async false
set_option linter.all false
set_option maxRecDepth 100000
set_option maxHeartbeats 1000000
namespace Z
open PySem PySem.Spec PyProof.Rows L2
/-! ## own classes -/
structure ClsF (K : PySem.W.Frag) (C : Addr) : Prop where
  cls : Cls K C
  ne : PySem.W.findIn K (.ref C) "__ne__" = some (some (.builtin "object.__ne__"))
  obj : PySem.W.mroIn K C (.type "object") = some true
  ha : PySem.W.findIn K (.ref C) "__class__" = some (some (.builtin "object.__class__"))
  hn : PySem.W.specialIn K (.builtin "object.__class__") "__get__" = some (some (.builtin "getset_descriptor.__get__"))
  tk : PySem.W.takesIn K (.builtin "object.__class__") = some true
/-- a method: its def at f, what it promises -/
structure MeD (P : Program) (w : World) (K : PySem.W.Frag) (mg : Str → Option Value) (base : Heap) (k : Nat) (C : Addr) (m : Str) (ps : List Str) (rel : Rel) : Prop where
  ex : ∃ f fd, FnOk P w K mg base CX0 k f fd ps (spG rel) ∧ Meth K C m f ∧ Binds K fd ps []
section
variable {F : Hp}
theorem RepF.keys {vs : List (Str × V)} {ds : List (Str × D)} (r : RepF F vs ds) (m : Str) : ds.lookup m = none → vs.lookup m = none := by
  induction ds generalizing vs with
  | nil => intro _; cases r; rfl
  | cons p ds ih =>
    intro h
    cases r with
    | cons rv rt =>
      rw [List.lookup_cons] at h ⊢
      split at h
      · cases h
      · exact ih rt h
theorem RepF.get {vs : List (Str × V)} {ds : List (Str × D)} (r : RepF F vs ds) {m : Str} {d : D} : ds.lookup m = some d → ∃ v, vs.lookup m = some v ∧ Rep F v d := by
  induction ds generalizing vs with
  | nil => intro h; cases h
  | cons p ds ih =>
    intro h
    cases r with
    | cons rv rt =>
      rw [List.lookup_cons] at h ⊢
      split at h
      · cases h
        exact ⟨_, rfl, rv⟩
      · exact ih rt h
theorem Rep.ob_inv {v : V} {C : Addr} {ds : List (Str × D)} (r : Rep F v (.ob C ds)) : ∃ a dx vs, v = .ref a ∧ F a = some (.ins C dx vs) ∧ RepF F vs ds := by
  cases r with
  | ob h r => exact ⟨_, _, _, rfl, h, r⟩
end
section
variable {X : Cx} {e a b c o : Expr} {es : List Expr} {σ : L2.St} {F F1 W W1 W2 W3 : Hp} {d d1 d2 d3 : D} {ds : List D} {fds gds : List (Str × D)} {q q1 q2 : Bool} {pos p apos : Pos} {i j : Int} {k n : Nat} {C C2 : Addr} {A : AE} {rest : List Stmt} {m f : Str} {ps : List Str} {rel : Rel}
theorem ev_fld (h : EvS X e σ F W (.ob C fds) W1) (c : Cls X.K C) (na : NoAttr X.K C f) (hl : fds.lookup f = some d) (hb : attributeBase e f X.env (eval e X.env) = eval e X.env := by rfl) : EvS X (.Attribute e f pos) σ F W d W1 := fun H w Q q =>
  tm_of (pe_fld pe_tm hb) (h H w _ fun v F' H' g r => by
    obtain ⟨a, dx, vs, rfl, h1, r1⟩ := r.ob_inv
    obtain ⟨v, hv, rv⟩ := r1.get hl
    exact ⟨a, C, dx, vs, v, rfl, g.st.ins h1, c, na, hv, q v F' H' g rv⟩)
/-- a def runs, wherever there is room -/
theorem call_at {g : Addr} {fd : FuncData} {A' : Around} {pins : List (Addr × Obj)} {s : Shared} {H : Hp} {Q : VK} {us : List Value} {vs : List V} (Fn : FnOk X.prog X.w X.K X.mg X.base CX0 n g fd ps (spG rel)) (hb : Binds X.K fd ps []) (hr : Room n A') (hf : A'.frames = X.A.frames)
    (I : Inv X pins σ H s) (r : Vals vs us) (h : spG rel vs H Q E0) : wpAny (model X.prog X.w) A' (call (.ref g) us) (EP X pins σ Q) X.xe s := by
  have e0 : Env0 X.prog X.w X.K X.mg X.base A' X.stack s H := by
    have e := I.env0
    exact ⟨by rw [hf]; exact e.frames, e.mod, e.bs, e.bsz, e.funs, e.frf, e.hok, e.bare⟩
  have hl : us.length = ps.length := by rw [← r.length]; exact Fn.len _ _ _ _ h
  have hb' := hb s us I.kIn (by simpa using hl)
  rw [List.append_nil] at hb'
  refine wpAny_call (codeAny_mono (Fn.run A' X.stack s H ⟨us, []⟩ us vs Q E0 hr e0 hb' r h) fun r s' hq => ?_)
  cases r with
  | error e => exact (show False from hq).elim
  | ok fl =>
    cases fl with
    | ret u => exact I.after hq
    | next => exact False.elim hq
    | brk => exact False.elim hq
    | cont => exact False.elim hq
/-- o.m(e, ..) -/
theorem ev_meth (h : EvS X o σ F W (.ob C fds) W1) (cl : ClsF X.K C) (Me : MeD X.prog X.w X.K X.mg X.base k C m ps rel) (hr : Room k X.A) (hm : fds.lookup m = none) (ha : EvA X (e :: es) σ F W1 ds W2) (hrel : ∀ F1, Same F F1 → rel (.ob C fds :: ds) F1 W2 d W3)
    {pl : Sem Bool} (hst : starEach (e :: es) X.env = (false, eval e X.env) :: starEach es X.env := by rfl) (hpl : (backTo pos (starEach es X.env)).any (·.1) = false := by rfl)
    (ht : eval (.Call (.Attribute o m apos) (e :: es) [] pos) X.env = (do
      let ov ← eval o X.env
      standAt apos.atName
      let (f, first) ← holding [ov] (getMethod ov m pl)
      callWith pos f first (backTo pos (starEach (e :: es) X.env)) (backToKw pos (keywordEach [] X.env))) := by rfl) : EvS X (.Call (.Attribute o m apos) (e :: es) [] pos) σ F W d W3 := fun H w Q q => by
  obtain ⟨f, fd, hF, hM, hb⟩ := Me.ex
  refine tm_of (pe_meth (E := E0) pe_tm cl.cls hM hF hr hb .nil pass0 pa_tm hst hpl ht) (h H w _ fun v F1 H1 g r => ?_)
  obtain ⟨a, dx, vs, rfl, h1, r1⟩ := r.ob_inv
  refine ⟨a, dx, vs, rfl, g.st.ins h1, r1.keys m hm, ha.mono g.ex H1 g.st _ fun us F2 H2 g2 r2 => ?_⟩
  show spG rel (.ref a :: (us ++ [])) H2 Q _
  rw [List.append_nil]
  exact ⟨F2, W2, _, d, W3, g2.st, .cons (r.mono g2.ex) r2, hrel F2 (g.trans g2).ex, fun v F' H' g3 r3 => q v F' H' ((g.trans g2).trans g3) r3⟩
theorem ev_meth0 (h : EvS X o σ F W (.ob C fds) W1) (cl : ClsF X.K C) (Me : MeD X.prog X.w X.K X.mg X.base k C m ps rel) (hr : Room k X.A) (hm : fds.lookup m = none) (hrel : ∀ F1, Same F F1 → rel [.ob C fds] F1 W1 d W3)
    {pl : Sem Bool} (ht : eval (.Call (.Attribute o m apos) [] [] pos) X.env = (do
      let ov ← eval o X.env
      standAt apos.atName
      let (f, first) ← holding [ov] (getMethod ov m pl)
      callWith pos f first (backTo pos (starEach [] X.env)) (backToKw pos (keywordEach [] X.env))) := by rfl) : EvS X (.Call (.Attribute o m apos) [] [] pos) σ F W d W3 := fun H w Q q => by
  obtain ⟨f, fd, hF, hM, hb⟩ := Me.ex
  refine tm_of (pe_meth0 (E := E0) pe_tm cl.cls hM hF hr hb .nil pass0 ht) (h H w _ fun v F1 H1 g r => ?_)
  obtain ⟨a, dx, vs, rfl, h1, r1⟩ := r.ob_inv
  refine ⟨a, dx, vs, rfl, g.st.ins h1, r1.keys m hm, ?_⟩
  exact ⟨F1, W1, _, d, W3, g.st, .cons r .nil, hrel F1 g.ex, fun v F' H' g3 r3 => q v F' H' (g.trans g3) r3⟩
/-! ### made -/
/-- what an __init__ makes of what it is handed: the attributes -/
def spI (C : Addr) (rel : List D → List (Str × D) → Prop) : Sp := fun vs H Q _ => ∃ F W x dx ds fds vs', vs = .ref x :: vs' ∧ Wd F W H ∧ W x = some (.ins C dx []) ∧ Reps F vs' ds ∧ rel ds fds ∧
  ∀ fvs F' H', Go F W H F' (upd W x (.ins C dx fvs)) H' → RepF F' fvs fds → Q .non H'
structure InD (P : Program) (w : World) (K : PySem.W.Frag) (mg : Str → Option Value) (base : Heap) (k : Nat) (x : Str) (C : Addr) (ps : List Str) (rel : List D → List (Str × D) → Prop) : Prop where
  ex : ∃ f fd, FnOk P w K mg base CX0 k f fd ps (spI C rel) ∧ Mk K C f ∧ mg x = some (.ref C) ∧ Binds K fd ps []
theorem Go.made {H : Hp} {C x dx : Addr} (w : Wd F W H) (hx : H x = none) (hd : H dx = none) (ne : dx ≠ x) : Go F W H F (upd (upd W dx (.own x)) x (.ins C dx [])) (upd (upd H dx (.own x)) x (.ins C dx [])) := by
  have g1 := Go.own w (o := .own x) hd
  exact g1.trans (Go.own g1.st (by rw [upd_ne (Ne.symm ne)]; exact hx))
theorem ev_make {x : Str} {reli : List D → List (Str × D) → Prop} (In : InD X.prog X.w X.K X.mg X.base k x C ps reli) (hr : Room (k + 1) X.A) (ha : EvA X (e :: es) σ F W ds W1) (hrel : reli ds fds) (hg : Gl X x := by rfl) (hdb : (x == ("__debug__" : Str)) = false := by decide)
    (he : starEach (e :: es) X.env = (false, eval e X.env) :: starEach es X.env := by rfl) (hpl : (backTo pos (starEach es X.env)).any (·.1) = false := by rfl) : EvS X (.Call (.Name x p) (e :: es) [] pos) σ F W (.ob C fds) W1 := fun H w Q q => by
  obtain ⟨f, fd, hF, hM, hm, hb⟩ := In.ex
  refine tm_of (pe_make (E := E0) hM hF hr hg hm hb .nil pass0 pa_tm hdb he hpl) (ha H w _ fun vs F1 H1 g r => fun a dx hx hd ne => ?_)
  have gm := Go.made (C := C) g.st hx hd ne
  refine ⟨F1, _, a, dx, ds, fds, vs, by rw [List.append_nil], gm.st, upd_same, r, hrel, fun fvs F' H' g2 rf => ⟨rfl, ?_⟩⟩
  rw [upd_upd] at g2
  have f1 := Go.freeze g2.st (p := a) upd_same
  have w1x := (g.st.fresh hx).2
  have e1 : del (upd (upd W1 dx (.own a)) a (.ins C dx fvs)) a = upd W1 dx (.own a) := del_upd (by rw [upd_ne (Ne.symm ne)]; exact w1x)
  rw [e1] at f1
  have f2 := Go.freeze f1.st (p := dx) upd_same
  rw [del_upd (g.st.fresh hd).2] at f2
  refine q _ _ _ (g.trans (gm.trans (g2.trans (f1.trans f2)))) (.ob (C := C) (dx := dx) ((f2.ex) _ _ upd_same) (rf.mono (f1.ex.trans f2.ex)))
theorem ev_make0 {x : Str} {reli : List D → List (Str × D) → Prop} (In : InD X.prog X.w X.K X.mg X.base k x C ps reli) (hr : Room (k + 1) X.A) (hrel : reli [] fds) (hg : Gl X x := by rfl) (hdb : (x == ("__debug__" : Str)) = false := by decide) : EvS X (.Call (.Name x p) [] [] pos) σ F W (.ob C fds) W := fun H w Q q => by
  obtain ⟨f, fd, hF, hM, hm, hb⟩ := In.ex
  refine tm_of (pe_make0 (E := E0) hM hF hr hg hm hb .nil pass0 hdb) (fun a dx hx hd ne => ?_)
  have gm := Go.made (C := C) w hx hd ne
  refine ⟨F, _, a, dx, [], fds, [], rfl, gm.st, upd_same, .nil, hrel, fun fvs F' H' g2 rf => ⟨rfl, ?_⟩⟩
  rw [upd_upd] at g2
  have f1 := Go.freeze g2.st (p := a) upd_same
  have w1x := (w.fresh hx).2
  have e1 : del (upd (upd W dx (.own a)) a (.ins C dx fvs)) a = upd W dx (.own a) := del_upd (by rw [upd_ne (Ne.symm ne)]; exact w1x)
  rw [e1] at f1
  have f2 := Go.freeze f1.st (p := dx) upd_same
  rw [del_upd (w.fresh hd).2] at f2
  exact q _ _ _ (gm.trans (g2.trans (f1.trans f2))) (.ob (C := C) (dx := dx) ((f2.ex) _ _ upd_same) (rf.mono (f1.ex.trans f2.ex)))
/-- self.f = e, self owned -/
theorem bl_fld {x dx : Addr} {fvs : List (Str × V)} {pos' : Pos} (h : EvS X e σ F W d W1) (ho : EvS X o σ F W1 (.ow x) W1) (hw : W1 x = some (.ins C dx fvs)) (c : Cls X.K C) (na : NoAttr X.K C f) (hz : fvs.length < 1000)
    (k : ∀ v F1, Same F F1 → Rep F1 v d → BlkS X rest σ F1 (upd W1 x (.ins C dx (putF f v fvs))) A) (hs : swapsWith e (some (.Attribute o f pos')) pos.line X.env = pure false := by rfl) : BlkS X (.Assign [.Attribute o f pos'] e pos :: rest) σ F W A := fun H w E ok =>
  tmB_of (pss_cons (ps_fld pe_tm pe_tm hs) pss_tm) (h H w _ fun v F1 H1 g r => (ho.mono g.ex).then g fun v2 F2 H2 g2 g02 r2 => by
    cases r2
    refine ⟨x, C, dx, fvs, rfl, g2.st.w x _ hw, c, na, hz, ?_⟩
    exact (k v F2 g02.ex (r.mono g2.ex)).run ok (g02.trans (Go.put g2.st hw)))
theorem init_ok {P : Program} {w : World} {K : PySem.W.Frag} {mg : Str → Option Value} {base : Heap} {qual : Str} {st : Stmt} {f : Addr} {fd : FuncData} {N ps : List Str} {k : Nat} {reli : List D → List (Str × D) → Prop} (Fu : Fun K "__init__" qual st f fd) (S : FnScope N ps (defScope st)) (hl : ∀ ds fds, reli ds fds → ds.length + 1 = ps.length)
    (hb : ∀ (cdv : Value) (A : Around) (outer : List Env) (s : Shared) (H : Hp) (E : XK), Room k (A.deeper (envOfC qual (defScope st) s.heap.objs.size f cdv)) → ∀ ds fds W x dx vs F, reli ds fds → Reps F vs ds → W x = some (.ins C dx []) →
      BlkS (cxOf CX0 P w K mg base N qual (defScope st) f cdv A outer s H E).nox (defBody st) (start N (.ref x :: vs)) F W { nx := fun _ F2 W2 => ∃ fvs, W2 = upd W x (.ins C dx fvs) ∧ RepF F2 fvs fds, rt := fun _ _ => False }) :
    FnOk P w K mg base CX0 (k + 1) f fd ps (spI C reli) :=
  Fu.ok S (fun vs H Q E h => by
    obtain ⟨F, W, x, dx, ds, fds, vs', rfl, hw, hx, hr, hrel, _⟩ := h
    rw [List.length_cons, hr.length]; exact hl _ _ hrel) fun cdv A outer s H vs Q E hr h => by
    obtain ⟨F, W, x, dx, ds, fds, vs', rfl, hw, hx, hv, hrel, hq⟩ := h
    exact ⟨_, pss_tm, hb cdv A outer s H E hr ds fds W x dx vs' F hrel hv hx H hw _ ⟨fun σ' F' W2 H' g ⟨fvs, e1, rf⟩ => by
      subst e1; exact hq fvs F' H' g rf, fun d' v F' W2 H' g r z => z.elim, fun σ' F' W2 H' _ k => k.elim, fun σ' F' W2 H' _ k => k.elim⟩⟩
/-! ### truth, ==, != , isinstance -/
theorem ins_at {pins : List (Addr × Obj)} {s : Shared} {H : Hp} {a dx : Addr} {fs : List (Str × V)} (I : Inv X pins σ H s) (h : H a = some (.ins C dx fs)) : ∃ od, PySem.W.InstAt s.heap a (PySem.W.instObj C dx) C (some od) := by
  obtain ⟨mA, O, _⟩ := ins_get I.hok h
  obtain ⟨od, J, _⟩ := O.look
  exact ⟨od, J⟩
theorem run_bool {pins : List (Addr × Obj)} {s : Shared} {H : Hp} {A' : Around} {a : Addr} {Q : Bool → Shared → Prop} (Me : MeD X.prog X.w X.K X.mg X.base k C "__bool__" ps rel) (hr : Room k A') (hf : A'.frames = X.A.frames) (hrel : rel [.ob C fds] F W (.bl q) W1)
    (I : Inv X pins σ H s) (w : Wd F W H) (r : Rep F (.ref a) (.ob C fds)) (hQ : ∀ F' H' s', Go F W H F' W1 H' → Inv X pins σ H' s' → Q q s') : wpAny (model X.prog X.w) A' (truthy (.ref a)) Q X.xe s := by
  obtain ⟨g, fd, hF, hM, hb⟩ := Me.ex
  obtain ⟨a', dx, vs, e, h1, r1⟩ := id r.ob_inv
  cases e
  obtain ⟨od, J⟩ := ins_at I (w.ins h1)
  obtain ⟨m, hFr⟩ := I.fr
  refine PySem.W.truthy_K hFr I.ok.mod.kin J hM.at_ hM.fn (thn (call_at hF hb hr hf I (vs := [.ref a]) (Q := fun v H' => ∃ F', Go F W H F' W1 H' ∧ v = .bl q) (.cons rfl .nil) ?_) fun u s' ⟨v, H', I', ru, F', g', ev⟩ => ?_)
  · exact ⟨F, W, _, _, W1, w, .cons r .nil, hrel, fun v F' H' g' r' => ⟨F', g', by cases r'; rfl⟩⟩
  · subst ev
    cases ru
    exact hQ F' H' s' g' I'
theorem et_obj (h : EvS X e σ F W (.ob C fds) W1) (Me : MeD X.prog X.w X.K X.mg X.base k C "__bool__" ps rel) (hr : Room k X.A) (hrel : ∀ F1, Same F F1 → rel [.ob C fds] F1 W1 (.bl q) W2)
    (he : ∀ whole, isTrue e X.env whole = (do let v ← whole; standAt e.pos; holding [v] (truthy v)) := by intro _; rfl) : EvT X e σ F W q W2 := fun H w Q k' pins s I =>
  isTrue_plain (thn (h H w (fun v H' => ∃ F', Go F W H F' W1 H' ∧ Rep F' v (.ob C fds)) (fun v F' H' g r => ⟨F', g, r⟩) pins s I) fun v s1 ⟨x, H1, I1, r1, F', g, r⟩ => by
    obtain ⟨a, dx, vs, rfl, h1, r2⟩ := id r.ob_inv
    cases r1
    exact run_bool Me hr rfl (hrel F' g.ex) I1 g.st r fun F2 H2 s' g2 I2 => ⟨H2, I2, k' F2 H2 (g.trans g2)⟩) (he _)
theorem ev_boolO (hm : X.mg "bool" = none) (h : EvA X [e] σ F W [.ob C fds] W1) (Me : MeD X.prog X.w X.K X.mg X.base k C "__bool__" ps rel) (hr : Room (k + 2) X.A) (hrel : ∀ F1, Same F F1 → rel [.ob C fds] F1 W1 (.bl q) W2) (hv : bootBuiltins "bool" = some (.type "bool")) (hg : Gl X "bool" := by rfl)
    (he : starEach [e] X.env = (false, eval e X.env) :: starEach [] X.env := by rfl) : EvS X (.Call (.Name "bool" p) [e] [] pos) σ F W (.bl q) W2 := fun H w Q k' =>
  tm_of (pe_callTy (r := fun xs H Q => ∃ F W a, xs = [.ref a] ∧ Wd F W H ∧ Rep F (.ref a) (.ob C fds) ∧ rel [.ob C fds] F W (.bl q) W2 ∧ ∀ F' H', Go F W H F' W2 H' → Q (.bl q) H')
    (fun pins s σ H xs us Q I r h => by
      obtain ⟨F, W, a, rfl, w, rr, hre, hq⟩ := h
      obtain rfl := Vals.ref1 r
      exact ZBool.call_bool (run_bool Me hr.in1.in1 rfl hre I w rr fun F' H' s' g I' => fun tk => ⟨.bl q, H', I'.tok tk, rfl, hq F' H' g⟩)) hg hm hv pa_tm (by decide) (by decide) he rfl) (h H w _ fun vs F1 H1 g r => by
    cases r with
    | cons r t =>
    cases t
    obtain ⟨a, dx, vs, rfl, h1, r2⟩ := id r.ob_inv
    exact ⟨F1, W1, a, rfl, g.st, r, hrel F1 g.ex, fun F' H' g2 => k' _ F' H' (g.trans g2) (.bl _)⟩)
theorem cm_eqO (cl : ClsF X.K C) (Me : MeD X.prog X.w X.K X.mg X.base k C "__eq__" ps rel) (hr : Room k X.A) (hrel : ∀ F1, Same F F1 → rel [.ob C fds, .ob C2 gds] F1 W (.bl q) W) (hnf : PySem.W.notFirst X.K C (.ref C2) = true) : CmpR X .Eq F W (.ob C fds) (.ob C2 gds) q := by
  obtain ⟨g, fd, hF, hM, hb⟩ := Me.ex
  refine ⟨fun x y H Q => ∃ F W a b, x = .ref a ∧ y = .ref b ∧ Wd F W H ∧ Rep F (.ref a) (.ob C fds) ∧ Rep F (.ref b) (.ob C2 gds) ∧ rel [.ob C fds, .ob C2 gds] F W (.bl q) W ∧ ∀ F' H', Go F W H F' W H' → Q (.bl q) H', ?_, ?_⟩
  · intro pins s σ H x y v u Q I rx ry h
    obtain ⟨F, W, a, b, rfl, rfl, w, r1, r2, hre, hq⟩ := h
    cases rx; cases ry
    obtain ⟨a', dx, vs, e, h1, _⟩ := id r1.ob_inv
    cases e
    obtain ⟨b', dy, ws, e, h2, _⟩ := id r2.ob_inv
    cases e
    obtain ⟨od, J⟩ := ins_at I (w.ins h1)
    obtain ⟨od2, J2⟩ := ins_at I (w.ins h2)
    obtain ⟨m, hFr⟩ := I.fr
    show wpAny (model X.prog X.w) X.A (richCompare .Eq (.ref a) (.ref b)) (EP X pins σ Q) X.xe s
    refine PySem.W.cmp_K (op := .Eq) (tb := .ref C2) hr.units0 hFr I.ok.mod.kin J J2.type hnf hM.at_ hM.fn (thn (call_at hF hb hr rfl I (vs := [.ref a, .ref b]) (Q := fun v H' => ∃ F', Go F W H F' W H' ∧ v = .bl q) (.cons rfl (.cons rfl .nil)) ?_) fun u s' ⟨v, H', I', ru, F', g', ev⟩ => ?_)
    · exact ⟨F, W, _, _, W, w, .cons r1 (.cons r2 .nil), hre, fun v F' H' g' r' => ⟨F', g', by cases r'; rfl⟩⟩
    · subst ev
      cases ru
      exact ⟨.bl q, H', I', rfl, hq F' H' g'⟩
  · intro v1 v2 F1 H1 e r1 r2 w Q hq
    obtain ⟨a, dx, vs, rfl, h1, _⟩ := id r1.ob_inv
    obtain ⟨b, dy, ws, rfl, h2, _⟩ := id r2.ob_inv
    exact ⟨F1, W, a, b, rfl, rfl, w, r1, r2, hrel F1 e, fun F' H' g => hq _ F' H' g (.bl _)⟩
theorem cm_neO (cl : ClsF X.K C) (Me : MeD X.prog X.w X.K X.mg X.base k C "__eq__" ps rel) (hr : Room (k + 1) X.A) (hrel : ∀ F1, Same F F1 → rel [.ob C fds, .ob C2 gds] F1 W (.bl q) W) (hnf : PySem.W.notFirst X.K C (.ref C2) = true) : CmpR X .NotEq F W (.ob C fds) (.ob C2 gds) (!q) := by
  obtain ⟨g, fd, hF, hM, hb⟩ := Me.ex
  refine ⟨fun x y H Q => ∃ F W a b, x = .ref a ∧ y = .ref b ∧ Wd F W H ∧ Rep F (.ref a) (.ob C fds) ∧ Rep F (.ref b) (.ob C2 gds) ∧ rel [.ob C fds, .ob C2 gds] F W (.bl q) W ∧ ∀ F' H', Go F W H F' W H' → Q (.bl (!q)) H', ?_, ?_⟩
  · intro pins s σ H x y v u Q I rx ry h
    obtain ⟨F, W, a, b, rfl, rfl, w, r1, r2, hre, hq⟩ := h
    cases rx; cases ry
    obtain ⟨a', dx, vs, e, h1, _⟩ := id r1.ob_inv
    cases e
    obtain ⟨b', dy, ws, e, h2, _⟩ := id r2.ob_inv
    cases e
    obtain ⟨od, J⟩ := ins_at I (w.ins h1)
    obtain ⟨od2, J2⟩ := ins_at I (w.ins h2)
    obtain ⟨m, hFr⟩ := I.fr
    have hu := hr.units
    show wpAny (model X.prog X.w) X.A (richCompare .NotEq (.ref a) (.ref b)) (EP X pins σ Q) X.xe s
    refine PySem.W.z_ne_K (tb := .ref C2) (by omega) hFr I.ok.mod.kin J J2.type hnf cl.ne cl.obj hM.at_ hM.fn (by decide +kernel) (thn (call_at hF hb hr.in1 rfl I (vs := [.ref a, .ref b]) (Q := fun v H' => ∃ F', Go F W H F' W H' ∧ v = .bl q) (.cons rfl (.cons rfl .nil)) ?_) fun u s' ⟨v, H', I', ru, F', g', ev⟩ => ?_)
    · exact ⟨F, W, _, _, W, w, .cons r1 (.cons r2 .nil), hre, fun v F' H' g' r' => ⟨F', g', by cases r'; rfl⟩⟩
    · subst ev
      cases ru
      exact ⟨q, rfl, .bl (!q), H', I', rfl, hq F' H' g'⟩
  · intro v1 v2 F1 H1 e r1 r2 w Q hq
    obtain ⟨a, dx, vs, rfl, h1, _⟩ := id r1.ob_inv
    obtain ⟨b, dy, ws, rfl, h2, _⟩ := id r2.ob_inv
    exact ⟨F1, W, a, b, rfl, rfl, w, r1, r2, hrel F1 e, fun F' H' g => hq _ F' H' g (.bl _)⟩
/-- isinstance(x, an own class) -/
theorem ev_isiO {y : Str} {p2 : Pos} (hm : X.mg "isinstance" = none) (hm2 : X.mg y = some (.ref C2)) (ha : EvS X e σ F W (.ob C fds) W1) (cl : ClsF X.K C) (hk : PySem.W.kitOne X.K (.ref C) (.ref C2) = some q) (hg : Gl X "isinstance" := by rfl) (hg2 : Gl X y := by rfl)
    (hdb : (y == ("__debug__" : Str)) = false := by decide) (he : starEach [e, .Name y p2] X.env = (false, eval e X.env) :: starEach [.Name y p2] X.env := by rfl) (hpl : (backTo pos (starEach [.Name y p2] X.env)).any (·.1) = false := by rfl) :
    EvS X (.Call (.Name "isinstance" p) [e, .Name y p2] [] pos) σ F W (.bl q) W1 := fun H w Q k =>
  tm_of (pe_callB call_isi hg hm (by decide +kernel) (pa_cons pe_tm (pa_cons (pe_glob (v := .ref C2) hg2 hm2 rfl hdb) pa_nil) he) (by decide) (by decide) he hpl) (ha H w _ fun v F1 H1 g r => by
    obtain ⟨a, dx, vs, rfl, h1, _⟩ := id r.ob_inv
    exact ⟨.ref a, .ref C2, .ref C, .ref C2, q, rfl, .own C2, .base (.ins (g.st.ins h1) cl.cls cl.ha cl.hn cl.tk cl.obj), hk, k _ F1 H1 g (.bl _)⟩)
end
end Z
set_option Elab.async false
set_option linter.all false
set_option maxRecDepth 100000
set_option maxHeartbeats 1000000
namespace Z
open PySem PySem.Spec PyProof.Rows L2
section
variable {X : Cx} {e a b c o tg iter elt : Expr} {es ifs : List Expr} {σ : L2.St} {F F1 W W1 W2 W3 : Hp} {d d1 d2 d3 : D} {ds : List D} {q q1 q2 : Bool} {pos p p2 apos : Pos} {i j : Int} {k n : Nat} {A : AE} {rest body : List Stmt}
/-! ### sorted, sets -/
def sortI (ns : List Int) : List Int := ns.mergeSort fun x y => decide (x ≤ y)
theorem cl_sortedI {ns : List Int} : CalR X (.builtin "sorted") F W [eR false D.int ns] (eR false D.int (sortI ns)) := ⟨_, cr_sortedI, fun vs F1 H1 _ r w Q q => by
  cases r with
  | cons r t =>
    cases t
    obtain ⟨l, rfl, h1, z⟩ := rep_ints r
    refine ⟨l, ns, rfl, SqL.of (w.lst h1), fun ns' p hp hs hn => ?_⟩
    have e : ns' = sortI ns := PySem.W.os_sorted_mergeSort hp hs
    subst e
    exact q _ _ _ (Go.new w hn) (.sq (t := false) upd_same (Reps.of_ints _) (by rw [List.length_map, hp.length_eq]; exact z))⟩
theorem len_of_nodup {α : Type} [DecidableEq α] : ∀ {l m : List α}, l.Nodup → (∀ x, x ∈ l → x ∈ m) → l.length ≤ m.length
  | [], _, _, _ => Nat.zero_le _
  | x :: l, m, hn, h => by
    have hx : x ∈ m := h x List.mem_cons_self
    have h2 := List.nodup_cons.mp hn
    have := len_of_nodup (l := l) (m := m.erase x) h2.2 (fun y hy => by
      have hne : y ≠ x := fun e => h2.1 (e ▸ hy)
      exact (List.mem_erase_of_ne hne).mpr (h y (List.mem_cons_of_mem _ hy)))
    rw [List.length_erase_of_mem hx] at this
    have hp : 0 < m.length := List.length_pos_of_mem hx
    simp only [List.length_cons]
    omega
def tLenSetG (K : PySem.W.Frag) (ta : TE) : TE := fun σ H Q => ta σ H fun x H1 => ∃ (t : Bool) (l : Addr) (ns : List Int), x = .ref l ∧ SqO K t H1 l (ns.map V.int) ∧ ns.Nodup ∧ ns.length ≤ 4000 ∧ Q (.int (ns.length : Nat)) H1
theorem pe_lenSetG {q' : Pos} (hg : Gl X "len") (hm : X.mg "len" = none) (hg2 : Gl X "set") (hm2 : X.mg "set" = none) {ta : TE} (ha : PE X a ta) (hc : X.calm = true := by rfl)
    (na : starEach [a] X.env = (false, eval a X.env) :: starEach [] X.env := by rfl) : PE X (.Call (.Name "len" p) [.Call (.Name "set" p2) [a] [] q'] [] pos) (tLenSetG X.K ta) := by
  refine ⟨fun pins s σ H Q I h => ?_⟩
  refine Call_ (ld_blt I hg hm PySem.boot_len ?_)
  refine PyProof.Rows.callWith_builtin1 (PyProof.Rows.args_cons ?_ rfl) rfl rfl
  refine Call_ (ld_blt I hg2 hm2 PyProof.Rows.boot_set ?_)
  refine PyProof.Rows.callWith_type1 (PyProof.Rows.args_cons (thn (ha.run pins s σ H _ I h) fun v s1 ⟨x, H1, I1, r1, q1⟩ => PyProof.Rows.args_nil ?_) na) na rfl
  obtain ⟨t, l, ns, rfl, hq, hnd, hl, q1⟩ := q1
  cases r1
  cases t with
  | false =>
    obtain ⟨its, r, pl, hz⟩ := I1.list hq
    have hlen : its.toArray.size = ns.length := by rw [List.size_toArray, ← r.length, List.length_map]
    refine call_set_list (I1.ok.hd hc) pl.isList (by simpa using RZ.intsAre_vals r) (by rw [hlen]; unfold scanBound; omega) fun h' tk hS hk => ?_
    refine PyProof.Rows.args_nil ?_
    rw [hlen, RZ.firstMet_nodup hnd ns.length (Nat.le_refl _), List.take_length] at hS
    obtain ⟨o, es, ep, t, ho, hex, hd, _, _, _, hf, hn⟩ := hS
    have I2 : Inv X pins σ H1 { s1 with heap := h', toks := tk } := I1.kept fun b o e => hk b o (Heap.lt_size e) e
    exact call_len_set ho hex hd hf (by rw [hn] <;> omega) ⟨.int ns.length, H1, I2.tok _, ⟨_, by rw [hn]⟩, q1⟩
  | true =>
    obtain ⟨its, r, pl, hz⟩ := I1.tuple hq
    have hi := RZ.intsAre_vals r
    refine call_set_tupI ns (I1.ok.hd hc) (show s1.heap.IsTuple l its.toArray from pl) (by simpa using hi) (by unfold scanBound; omega) fun h' tk c hS _ hk => ?_
    refine PyProof.Rows.args_nil ?_
    obtain ⟨o, es, ep, t, ho, hex, hd, hgd, hnd2, hmem, _, hf, hn, _⟩ := hS
    have I2 : Inv X pins σ H1 { s1 with heap := h', toks := tk } := I1.kept fun b o e => hk b o e
    have e1 : es.size = ns.length := by
      have a1 := len_of_nodup hnd2 (m := ns) fun x hx => of_decide_eq_true ((hmem x).mpr hx)
      have a2 := len_of_nodup hnd (m := es.toList.map keyOf) fun x hx => (hmem x).mp (decide_eq_true hx)
      rw [List.length_map, Array.length_toList] at a1 a2
      exact Nat.le_antisymm a1 a2
    exact call_len_set ho hex hd hf (by rw [e1]; omega) ⟨.int ns.length, H1, I2.tok _, ⟨_, by rw [e1]⟩, q1⟩
theorem ev_lenset {t : Bool} {ns : List Int} {q' : Pos} (hm : X.mg "len" = none) (hm2 : X.mg "set" = none) (h : EvS X a σ F W (eR t D.int ns) W1) (hnd : ns.Nodup) (hz : ns.length ≤ 4000) (hg : Gl X "len" := by rfl) (hg2 : Gl X "set" := by rfl) (hc : X.calm = true := by rfl)
    (na : starEach [a] X.env = (false, eval a X.env) :: starEach [] X.env := by rfl) : EvS X (.Call (.Name "len" p) [.Call (.Name "set" p2) [a] [] q'] [] pos) σ F W (.int ns.length) W1 := fun H w Q q =>
  tm_of (pe_lenSetG hg hm hg2 hm2 pe_tm hc na) (h H w _ fun v F1 H1 g r => by
    obtain ⟨l, rfl, h1, z⟩ := rep_ints r
    exact ⟨t, l, ns, rfl, sqo_of g.st h1, hnd, hz, q _ F1 H1 g (.int _)⟩)
/-! ### the script, that nobody writes -/
theorem Rep.fz_inv {v : V} {K : PySem.W.Frag} (r : Rep F v (.fz K ds)) : ∃ a vs, v = .ref a ∧ ((∃ o, F a = some (.frz o (.lst vs))) ∨ SqK K a vs) ∧ Reps F vs ds ∧ ds.length ≤ 100000 := by
  cases r with
  | fz h r z => exact ⟨_, _, rfl, h, r, z⟩
theorem Rep.fz_sq {v : V} {K : PySem.W.Frag} {H : Hp} (w : Wd F W H) (r : Rep F v (.fz K ds)) : ∃ a vs, v = .ref a ∧ SqL K H a vs ∧ Reps F vs ds ∧ ds.length ≤ 100000 := by
  obtain ⟨a, vs, e, h, r, z⟩ := r.fz_inv
  refine ⟨a, vs, e, ?_, r, z⟩
  rcases h with ⟨o, h⟩ | h
  · exact w.fzl h
  · exact .inr h
theorem Rep.fz_dp {v : V} {K : PySem.W.Frag} {H : Hp} (w : Wd F W H) (r : Rep F v (.fz K ds)) (h : D.pls ds = true) : Dp K H v (.list (D.pds ds)) := by
  obtain ⟨a, vs, rfl, h1, s1, z1⟩ := r.fz_sq w
  exact .lst h1 (Reps.dp w s1 h)
theorem cl_lenZ : CalR X (.builtin "len") F W [.fz X.K ds] (.int ds.length) := ⟨_, call_len_seq, fun vs F1 H1 _ r w Q q => by
  cases r with
  | cons r t =>
    cases t
    obtain ⟨l, us, rfl, h1, s1, z1⟩ := r.fz_sq w
    exact ⟨l, us, rfl, .inl h1, by rw [s1.length]; exact q _ F1 H1 (Go.refl w) (.int _)⟩⟩
theorem ev_ixZ (ha : EvS X a σ F W (.fz X.K ds) W1) (hb : EvS X b σ F W1 (.int i) W2) (hx : atI ds i = some d) (hs : ∀ v i, subscripted b false v i = operate [v, i] (getItem v i) := by intro _ _; rfl) : EvS X (.Subscript a b pos) σ F W d W2 := fun H w Q q =>
  tm_of (pe_ix ix_list pe_tm pe_tm hs) (ha H w _ fun v F1 H1 g r => (hb.mono g.ex).then g fun v2 F2 H2 g2 g02 r2 => by
    obtain ⟨l, us, rfl, h1, s1, z1⟩ := (r.mono g2.ex).fz_sq g02.st
    cases r2
    obtain ⟨v, hv, rv⟩ := atI_rep s1 hx
    exact ⟨l, us, i, v, rfl, rfl, h1, hv, q v F2 H2 g02 rv⟩)
/-! ### owned lists -/
theorem ev_ixW {l : Addr} {vs : List V} {v : V} (ha : EvS X a σ F W (.ow l) W1) (hb : EvS X b σ F W1 (.int i) W2) (hw : W2 l = some (.lst vs)) (hx : atI vs i = some v) (r : Rep F v d) (hs : ∀ v i, subscripted b false v i = operate [v, i] (getItem v i) := by intro _ _; rfl) : EvS X (.Subscript a b pos) σ F W d W2 := fun H w Q q =>
  tm_of (pe_ix ix_list pe_tm pe_tm hs) (ha H w _ fun v F1 H1 g r1 => (hb.mono g.ex).then g fun v2 F2 H2 g2 g02 r2 => by
    cases r1; cases r2
    exact ⟨l, vs, i, _, rfl, rfl, SqL.of (g02.st.w l _ hw), hx, q _ F2 H2 g02 (r.mono g02.ex)⟩)
theorem pget_list : PGet X (fun o i H Q => ∃ (l : Addr) (xs : List V) (k : Nat) (v : V), o = .ref l ∧ i = .int k ∧ SqL X.K H l xs ∧ xs[k]? = some v ∧ Q v H) := by
  intro pins s σ H o i ov iv Q I ro ri h
  obtain ⟨l, xs, k, v, rfl, rfl, hl, hv, q⟩ := h
  cases ro
  obtain ⟨t, rfl⟩ := ri
  obtain ⟨its, r, pl, hz⟩ := I.list hl
  obtain ⟨u, hu, ru⟩ := r.get hv
  have hn := line63
  have hk : k < xs.length := (List.getElem?_eq_some_iff.mp hv).1
  exact wpAny_getItem_list pl.isList (by omega) (by omega) (x := u) (by simpa using hu) ⟨v, H, I, ru, q⟩
/-- l[j] += an int -/
theorem bl_augL {l : Addr} {vs : List V} {j : Nat} {m m2 : Int} {tpos : Pos} (ha : EvS X a σ F W (.ow l) W) (hb : EvS X b σ F W (.int j) W) (hw : W l = some (.lst vs)) (hx : vs[j]? = some (.int m)) (he : EvS X e σ F W (.int m2) W) (kk : BlkS X rest σ F (upd W l (.lst (vs.set j (.int (m + m2))))) A)
    (hst : ∀ ov iv new, augStore b ov iv new = (do holding [new, ov, iv] (setItem ov iv new); release [new, ov, iv] []; pure .next) := by intros; rfl) :
    BlkS X (.AugAssign (.Subscript a b tpos) .Add e pos :: rest) σ F W A := fun H w E ok =>
  tmB_of (pss_cons (ps_augS pe_tm pe_tm pget_list pe_tm ip_add set_list hst) pss_tm) (ha H w _ fun v F1 H1 g r1 => (hb.mono g.ex).then g fun v2 F2 H2 g2 g02 r2 => by
    cases r1; cases r2
    have hl := g02.st.w l _ hw
    refine ⟨l, vs, j, .int m, rfl, rfl, SqL.of hl, hx, (he.mono g02.ex).then g02 fun v3 F3 H3 g3 g03 r3 => ?_⟩
    cases r3
    refine ⟨m, m2, rfl, rfl, l, vs, j, j, rfl, rfl, g03.st.w l _ hw, ?_, kk.run ok (g03.back.trans (Go.put g03.back.st hw))⟩
    have hj : j < vs.length := (List.getElem?_eq_some_iff.mp hx).1
    unfold ixN
    rw [if_pos (by omega), if_pos (by omega)]; simp)
/-- l[j] = e -/
theorem bl_setL {l : Addr} {vs : List V} {j : Nat} {tpos : Pos} (he : EvS X e σ F W d W) (ha : EvS X a σ F W (.ow l) W) (hb : EvS X b σ F W (.int j) W) (hw : W l = some (.lst vs)) (hj : j < vs.length) (kk : ∀ v F1, Same F F1 → Rep F1 v d → BlkS X rest σ F1 (upd W l (.lst (vs.set j v))) A)
    (hg : ∀ v, assign (.Subscript a b tpos) X.env v = (do
      let ov ← holding [v] (eval a X.env)
      let iv ← holding [v, ov] (eval b X.env)
      standAt tpos
      holding [v, ov, iv] (setItem ov iv v)
      release [v, ov, iv] []) := by intro _; rfl)
    (hs : swapsWithSole [.Subscript a b tpos] e pos.line X.env = pure false := by rfl) (hsw : swappedStores [.Subscript a b tpos] e X.env = pure none := by rfl) (h1 : (assignEach [.Subscript a b tpos] X.env).map (·.2) = [assign (.Subscript a b tpos) X.env] := by rfl) :
    BlkS X (.Assign [.Subscript a b tpos] e pos :: rest) σ F W A := fun H w E ok =>
  tmB_of (pss_cons (ps_asg pe_tm (pg_sub pe_tm pe_tm set_list hg) hs hsw h1) pss_tm) (he H w _ fun v F1 H1 g r => (ha.mono g.ex).then g fun v2 F2 H2 g2 g02 r2 => (hb.mono g02.ex).then g02 fun v3 F3 H3 g3 g03 r3 => by
    cases r2; cases r3
    refine ⟨l, vs, j, j, rfl, rfl, g03.st.w l _ hw, ?_, (kk v F3 g03.ex (r.mono (g2.ex.trans g3.ex))).run ok (g03.trans (Go.put g03.st hw))⟩
    unfold ixN
    rw [if_pos (by omega), if_pos (by omega)]; simp)
/-- l.append(e) -/
theorem bl_app {l : Addr} {vs : List V} (ha : EvS X o σ F W (.ow l) W) (he : EvS X e σ F W d W1) (hw : W1 l = some (.lst vs)) (hz : vs.length < 100000) (hw0 : W l = some (.lst vs)) (kk : ∀ v F1, Same F F1 → Rep F1 v d → BlkS X rest σ F1 (upd W1 l (.lst (vs ++ [v]))) A)
    (hs : swapsWith (.Call (.Attribute o "append" apos) [e] [] p) none pos.line X.env = pure false := by rfl) (h1 : attributeBase o "append" X.env (eval o X.env) = eval o X.env := by rfl) (hst : starEach [e] X.env = (false, eval e X.env) :: starEach [] X.env := by rfl)
    (hln : (apos.endLine == p.line) = true := by rfl) (hfew : (((backTo p (starEach [e] X.env)).all fun x => !x.fst) && (backToKw p (keywordEach [] X.env)).all fun x => x.fst.isSome) && decide (([e].length + ([] : List Keyword).length + if ([] : List Keyword).isEmpty = true then 0 else 1) < 30) = true := by rfl) :
    BlkS X (.Expr (.Call (.Attribute o "append" apos) [e] [] p) pos :: rest) σ F W A := fun H w E ok =>
  tmB_of (pss_cons (ps_expr (pe_bm PySem.F.plainAttrs_list PySem.F.slot_list_append PySem.F.type_list_append mt_append pe_tm (pa_cons pe_tm pa_nil hst) (hbase := h1) (hfew := hfew) (hs := hst) (hline := hln)) hs) pss_tm) (ha H w _ fun v F1 H1 g r => by
    cases r
    refine ⟨.inl ⟨rfl, _, SqL.of (g.st.w l _ hw0)⟩, (he.mono g.ex).then g fun v2 F2 H2 g2 g02 r2 => ?_⟩
    exact ⟨l, vs, v2, rfl, rfl, g02.st.w l _ hw, sz_lt (Nat.le_of_lt hz), (kk v2 F2 g02.ex r2).run ok (g02.trans (Go.put g02.st hw))⟩)
/-- x += e -/
theorem bl_augI {i : Nat} {x : Str} {m m2 : Int} {pos' : Pos} (hx : σ[i]? = some (some (.int m))) (he : EvS X e σ F W (.int m2) W1) (kk : BlkS X rest (σ.set i (some (.int (m + m2)))) F W1 A) (hi : X.N[i]? = some x := by rfl) (hN : X.N.Nodup := by first | assumption | decide +kernel) (hl : Loc X.env.scope x := by first | exact Or.inl rfl | exact Or.inr rfl)
    (hf : X.fn x = true ∨ X.env.scope.names.lookup x = some .local := by first | exact .inl rfl | exact .inr rfl) : BlkS X (.AugAssign (.Name x pos') .Add e pos :: rest) σ F W A := fun H w E ok =>
  tmB_of (pss_cons (ps_aug hN hi hl pe_tm ip_add hf) pss_tm) ⟨_, hx, he H w _ fun v F1 H1 g r => by
    cases r
    exact ⟨m, m2, rfl, rfl, kk.run ok g.back⟩⟩
/-- a, b = x, y; a, b, c = x, y, z (plain local names, stored from the right) -/
theorem bl_par2 {i j : Nat} {x y : Str} {px py pt : Pos} {kt k2 pt2} (ha : EvA X [a, b] σ F W [d1, d2] W1) (kk : ∀ v1 v2 F1, Same F F1 → Rep F1 v1 d1 → Rep F1 v2 d2 → BlkS X rest ((σ.set i (some v1)).set j (some v2)) F1 W1 A) (hi : X.N[i]? = some x := by rfl) (hj : X.N[j]? = some y := by rfl) (hij : i ≠ j := by decide)
    (hx : X.env.scope.names.lookup x = some .local := by rfl) (hy : X.env.scope.names.lookup y = some .local := by rfl) (hw : swappedStores [.Tuple [.Name x px, .Name y py] kt pt] (.Tuple [a, b] k2 pt2) X.env = pure (some [x, y]) := by rfl)
    (hs : swapsWithSole [.Tuple [.Name x px, .Name y py] kt pt] (.Tuple [a, b] k2 pt2) pos.line X.env = pure false := by rfl) (hc : X.calm = true := by rfl) (hN : X.N.Nodup := by first | assumption | decide +kernel) :
    BlkS X (.Assign [.Tuple [.Name x px, .Name y py] kt pt] (.Tuple [a, b] k2 pt2) pos :: rest) σ F W A := fun H w E ok =>
  tmB_of (pss_cons (ps_par hc hN hi hj hij hx hy pa_tm hw hs) pss_tm) (ha H w _ fun vs F1 H1 g r => by
    cases r with
    | cons r1 t =>
    cases t with
    | cons r2 t =>
    cases t
    exact ⟨_, _, rfl, (kk _ _ F1 g.ex r1 r2).run ok g⟩)
/-! ### an owned new list -/
def EvN (X : Cx) (e : Expr) (σ : L2.St) (F W : Hp) (ds : List D) (W1 : Hp) : Prop :=
  ∀ H, Wd F W H → ∀ Q : VK, (∀ p vs F' H', Go F W H F' (upd W1 p (.lst vs)) H' → Reps F' vs ds → W1 p = none → F' p = none → Q (.ref p) H') → tmE X e σ H Q
theorem en_lst (h : EvA X es σ F W ds W1) (hz : ds.length ≤ 100000) : EvN X (.List es pos) σ F W ds W1 := fun H w Q q =>
  tm_of (pe_lst pa_tm) (h H w _ fun vs F1 H1 g r => ⟨by rw [r.length]; exact sz_ok hz, fun p hp => q p vs _ _ (g.trans (Go.own g.st hp)) r (g.st.fresh hp).2 (g.st.fresh hp).1⟩)
theorem en_list {t : Bool} {y : Str} (hm : X.mg "list" = none) (ha : EvA X [e] σ F W [.sq t ds] W1) (hv : bootBuiltins "list" = some (.type "list")) (hg : Gl X "list" := by rfl)
    (he : starEach [e] X.env = (false, eval e X.env) :: starEach [] X.env := by rfl) : EvN X (.Call (.Name "list" p) [e] [] pos) σ F W ds W1 := fun H w Q q =>
  tm_of (pe_callTy call_list_of hg hm hv pa_tm (by decide) (by decide) he rfl) (ha H w _ fun vs F1 H1 g r => by
    cases r with
    | cons r t =>
    cases t
    obtain ⟨l, us, rfl, h1, s1, z1⟩ := r.sq_inv
    exact ⟨l, us, rfl, g.st.seq h1, fun p hp => q p us _ _ (g.trans (Go.own g.st hp)) s1 (g.st.fresh hp).2 (g.st.fresh hp).1⟩)
theorem en_rep {xs : List D} {k : Int} (ha : EvS X a σ F W (.sq false xs) W1) (hb : EvS X b σ F W1 (.int k) W2) (hk : k ≤ 100000) (hz : xs.length * k.toNat ≤ 100000) (h0 : -100000 ≤ k) : EvN X (.BinOp a .Mult b pos) σ F W (List.replicate k.toNat xs).flatten W2 := fun H w Q q =>
  tm_of (pe_op op_rep pe_tm pe_tm) (ha H w _ fun v1 F1 H1 g1 r1 => (hb.mono g1.ex).then g1 fun v2 F2 H2 g2 g02 r2 => by
    obtain ⟨l, vs, rfl, h1, s1, z1⟩ := (r1.mono g2.ex).lst_inv
    cases r2
    exact ⟨l, k, vs, rfl, rfl, g2.st.lst h1, by omega, by omega, by rw [s1.length]; exact sz_ok hz, fun p hp => q p _ _ _ (g02.trans (Go.own g02.st hp)) (s1.rep k.toNat) (g02.st.fresh hp).2 (g02.st.fresh hp).1⟩)
theorem bl_asgN {i : Nat} {x : Str} {pos' : Pos} (h : EvN X e σ F W ds W1) (k : ∀ p vs F1, Same F F1 → Reps F1 vs ds → W1 p = none → BlkS X rest (σ.set i (some (.ref p))) F1 (upd W1 p (.lst vs)) A) (hi : X.N[i]? = some x := by rfl) (hx : Loc X.env.scope x := by first | exact Or.inl rfl | exact Or.inr rfl)
    (hs : swapsWith e (some (.Name x pos')) pos.line X.env = pure false := by rfl) (hN : X.N.Nodup := by first | assumption | decide +kernel) (hf : X.fn x = true ∨ X.env.scope.names.lookup x = some .local := by first | exact .inl rfl | exact .inr rfl) :
    BlkS X (.Assign [.Name x pos'] e pos :: rest) σ F W A := fun H w E o =>
  tmB_of (pss_cons (ps_set hN hi hx pe_tm hs hf) pss_tm) (h H w _ fun p vs F' H' g r wp fp => (k p vs F' g.ex r wp).run o g)
/-- from here on it is not changed -/
theorem bl_freeze {l : Addr} {vs : List V} {sts : List Stmt} (hw : W l = some (.lst vs)) (r : Reps F vs ds) (hz : ds.length ≤ 100000) (k : ∀ F1, Same F F1 → Rep F1 (.ref l) (.sq false ds) → BlkS X sts σ F1 (del W l) A) : BlkS X sts σ F W A := fun H w E ok => by
  have g := Go.freeze w hw
  exact (k (upd F l (.lst vs)) g.ex (.sq (t := false) upd_same (r.mono g.ex) hz)).run ok g
/-! ### comprehensions that draw -/
def lcK {α β : Type} (t : α → Nat → Bool × Nat) (f : α → Nat → β × Nat) : List α → Nat → List β × Nat
  | [], k => ([], k)
  | x :: xs, k => if (t x k).1 = true then ((f x (t x k).2).1 :: (lcK t f xs (f x (t x k).2).2).1, (lcK t f xs (f x (t x k).2).2).2) else lcK t f xs (t x k).2
theorem lcK_snoc {α β : Type} (t : α → Nat → Bool × Nat) (f : α → Nat → β × Nat) (x : α) : ∀ (xs : List α) (k : Nat), lcK t f (xs ++ [x]) k =
    (let r := lcK t f xs k; if (t x r.2).1 = true then (r.1 ++ [(f x (t x r.2).2).1], (f x (t x r.2).2).2) else (r.1, (t x r.2).2))
  | [], k => by
    simp only [List.nil_append, lcK]
    rfl
  | y :: ys, k => by
    have ih := lcK_snoc t f x ys
    simp only [List.cons_append, lcK]
    by_cases h : (t y k).1 = true
    · simp only [h, if_true, ih]
      by_cases h2 : (t x (lcK t f ys (f y (t y k).2).2).2).1 = true
      · simp only [h2, if_true, List.cons_append]
      · simp only [h2, if_false]; rfl
    · simp only [h, if_false, ih]; rfl
theorem lc_K {α β : Type} {xs : List α} {f : α → D} {g : β → D} {own : List (Str × Nat)} {scope : Scope} (WK : Nat → Hp) {k0 : Nat} (t : α → Nat → Bool × Nat) (el : α → Nat → β × Nat) (hi : EvI X tg iter σ F W (xs.map f) (WK k0)) (hz : xs.length ≤ 100000)
    (body : ∀ x ∈ xs, ∀ k v F1, Same F F1 → Rep F1 v (f x) → Turn1 X scope (own.map (·.2)) tg ifs elt v σ F1 (WK k) (t x k).1 (WK (t x k).2) (g (el x (t x k).2).1) (WK (el x (t x k).2).2)) :
    LcS X elt tg iter ifs scope own σ F W (.sq false ((lcK t el xs k0).1.map g)) (WK (lcK t el xs k0).2) := by
  have kAt : ∀ i x, xs[i]? = some x → lcK t el (xs.take (i + 1)) k0 = (let r := lcK t el (xs.take i) k0; if (t x r.2).1 = true then (r.1 ++ [(el x (t x r.2).2).1], (el x (t x r.2).2).2) else (r.1, (t x r.2).2)) := fun i x hx => by
    rw [List.take_add_one, hx]; exact lcK_snoc t el x _ k0
  cases xs with
  | nil =>
    exact lc_G (n := 0) (Wf := fun _ => WK k0) (Wm := fun _ => WK k0) (p := fun _ => false) (g := fun _ => D.non) hi rfl (fun i d h => by simp at h) (fun _ _ _ => rfl) (Nat.zero_le _)
  | cons x0 xs' =>
    generalize hxs : x0 :: xs' = ys at *
    have key : ∀ i, i ≤ ys.length → ((List.range i).filter (fun i => (t (ys.getD i x0) (lcK t el (ys.take i) k0).2).1)).map (fun i => g (el (ys.getD i x0) (t (ys.getD i x0) (lcK t el (ys.take i) k0).2).2).1) = (lcK t el (ys.take i) k0).1.map g := by
      intro i
      induction i with
      | zero => intro _; rfl
      | succ i ih =>
        intro hi
        have hx : ys[i]? = some ys[i] := by simp [show i < ys.length from hi]
        have hd : ys.getD i x0 = ys[i] := by rw [List.getD_eq_getElem?_getD, hx]; rfl
        rw [List.range_succ, List.filter_append, List.map_append, ih (Nat.le_of_succ_le hi), kAt i _ hx]
        by_cases h : (t ys[i] (lcK t el (ys.take i) k0).2).1 = true
        · simp only [List.filter_cons, hd, h, if_true, List.filter_nil, List.map_cons, List.map_nil, List.map_append]
        · simp only [List.filter_cons, hd, h, if_false, List.filter_nil, List.map_nil, List.append_nil]; simp
    have e0 := key ys.length (Nat.le_refl _)
    rw [List.take_length] at e0
    rw [← e0]
    have e1 : (lcK t el ys k0).2 = (lcK t el (ys.take ys.length) k0).2 := by rw [List.take_length]
    rw [e1]
    refine lc_G (n := ys.length) (Wf := fun i => WK (lcK t el (ys.take i) k0).2) (Wm := fun i => WK (t (ys.getD i x0) (lcK t el (ys.take i) k0).2).2) hi (by rw [List.length_map]) (fun i d h v F1 ex r => ?_) (fun i hi hp => ?_) hz
    · rw [List.getElem?_map, Option.map_eq_some_iff] at h
      obtain ⟨x, hx, rfl⟩ := h
      have hd : ys.getD i x0 = x := by rw [List.getD_eq_getElem?_getD, hx]; rfl
      rw [hd, kAt i x hx]
      have b := body x (List.mem_of_getElem? hx) (lcK t el (ys.take i) k0).2 v F1 ex r
      intro s H0 C cl fp H w Q qq
      refine b s H0 C cl fp H w Q fun σ2 ⟨h1, h2, h3⟩ => qq σ2 ⟨h1, h2, fun ht => ?_⟩
      have ht' : (t x (lcK t el (ys.take i) k0).2).1 = true := ht
      simp only [ht', if_true]
      exact h3 ht
    · have hx : ys[i]? = some ys[i] := by simp [hi]
      have hd : ys.getD i x0 = ys[i] := by rw [List.getD_eq_getElem?_getD, hx]; rfl
      show WK _ = WK _
      have hp : (t (ys.getD i x0) (lcK t el (ys.take i) k0).2).1 = false := hp
      rw [kAt i _ hx]
      rw [hd] at hp ⊢
      simp only [hp, Bool.false_eq_true, if_false]
end
end Z
set_option Elab.async false
set_option linter.all false
set_option maxRecDepth 100000
set_option maxHeartbeats 1000000
namespace Z
open PySem PySem.Spec PyProof.Rows L2
section
variable {X : Cx} {e a b c o tg iter elt : Expr} {es ifs : List Expr} {σ : L2.St} {F F1 W W1 W2 W3 : Hp} {d d1 d2 d3 : D} {ds : List D} {q q1 q2 : Bool} {pos p p2 apos : Pos} {i j : Int} {n k : Nat} {A : AE} {rest body : List Stmt}
/-! ### chains of two -/
theorem ev_ch {op op' : CmpOp} (ha : EvS X a σ F W d1 W) (hb : EvS X b σ F W d2 W) (h1 : CmpR X op F W d1 d2 q1) (hc : q1 = true → EvS X c σ F W d3 W) (h2 : CmpR X op' F W d2 d3 q2) (hm : lastMarks [op, op'] [b, c] = false := by with_unfolding_all rfl) : EvS X (.Compare a [op, op'] [b, c] pos) σ F W (.bl (q1 && q2)) W := fun H w Q qq => by
  obtain ⟨r, ho, hr⟩ := h1.ex
  obtain ⟨r', ho', hr'⟩ := h2.ex
  exact tm_of (pe_chain ho ho' pe_tm pe_tm pe_tm hm) (ha H w _ fun v1 F1 H1 g1 r1 => (hb.mono g1.ex).then g1 fun v2 F2 H2 g2 g02 r2 =>
    hr v1 v2 F2 H2 g02.ex (r1.mono g2.ex) r2 g2.st _ fun v F3 H3 g3 r3 => by
      cases r3
      refine ⟨q1, rfl, ?_⟩
      cases q1 with
      | false => exact qq _ F3 H3 (g02.trans g3) (.bl _)
      | true => exact ((hc rfl).mono (g02.trans g3).ex).then (g02.trans g3) fun v4 F4 H4 g4 g04 r4 => hr' v2 v4 F4 H4 g04.ex (r2.mono (g3.ex.trans g4.ex)) r4 g4.st Q fun v F' H' g r => qq v F' H' (g04.trans g) r)
theorem et_ch {op op' : CmpOp} (ha : EvS X a σ F W d1 W) (hb : EvS X b σ F W d2 W) (h1 : CmpR X op F W d1 d2 q1) (hc : q1 = true → EvS X c σ F W d3 W) (h2 : CmpR X op' F W d2 d3 q2) (hm : lastMarks [op, op'] [b, c] = false := by with_unfolding_all rfl) : EvT X (.Compare a [op, op'] [b, c] pos) σ F W (q1 && q2) W := fun H w Q qq => by
  obtain ⟨r, ho, hr⟩ := h1.ex
  obtain ⟨r', ho', hr'⟩ := h2.ex
  exact tmT_of (pt_chain ho ho' pe_tm pe_tm pe_tm hm) (ha H w _ fun v1 F1 H1 g1 r1 => (hb.mono g1.ex).then g1 fun v2 F2 H2 g2 g02 r2 =>
    hr v1 v2 F2 H2 g02.ex (r1.mono g2.ex) r2 g2.st _ fun v F3 H3 g3 r3 => by
      cases r3
      refine ⟨q1, rfl, ?_⟩
      cases q1 with
      | false => exact ⟨false, rfl, qq F3 H3 (g02.trans g3)⟩
      | true => exact ((hc rfl).mono (g02.trans g3).ex).then (g02.trans g3) fun v4 F4 H4 g4 g04 r4 => hr' v2 v4 F4 H4 g04.ex (r2.mono (g3.ex.trans g4.ex)) r4 g4.st _ fun v F' H' g r => (match v, r with | _, .bl _ => ⟨q2, rfl, qq F' H' (g04.trans g)⟩))
/-! ### typed rows -/
section
variable {α β γ : Type} {f : α → D} {g : β → D} {t u : Bool} {xs ys : List α} {zs : List β} {x y z : α}
theorem cl_lenR : CalR X (.builtin "len") F W [eR t f xs] (.int xs.length) := (cl_len (xs := xs.map f)).is (by rw [List.length_map])
theorem cl_listR : CalR X (.type "list") F W [eR t f xs] (eR false f xs) := cl_list
theorem cl_tupleR : CalR X (.type "tuple") F W [eR t f xs] (eR true f xs) := cl_tuple
theorem ev_catR (ha : EvS X a σ F W (eR false f xs) W1) (hb : EvS X b σ F W1 (eR false f ys) W2) (hz : xs.length + ys.length ≤ 100000) : EvS X (.BinOp a .Add b pos) σ F W (eR false f (xs ++ ys)) W2 :=
  ev_is (ev_cat ha hb (by simpa using hz)) (by unfold eR; rw [List.map_append])
theorem ev_catTR (ha : EvS X a σ F W (eR true f xs) W1) (hb : EvS X b σ F W1 (eR true f ys) W2) (hne : xs ≠ []) (hz : xs.length + ys.length ≤ 100000) : EvS X (.BinOp a .Add b pos) σ F W (eR true f (xs ++ ys)) W2 :=
  ev_is (ev_catT ha hb (by simpa using hne) (by simpa using hz)) (by unfold eR; rw [List.map_append])
theorem ev_repR {m : Int} (ha : EvS X a σ F W (eR false f xs) W1) (hb : EvS X b σ F W1 (.int m) W2) (hk : m ≤ 100000) (hz : xs.length * m.toNat ≤ 100000) (h0 : -100000 ≤ m) : EvS X (.BinOp a .Mult b pos) σ F W (eR false f (List.replicate m.toNat xs).flatten) W2 :=
  ev_is (ev_rep ha hb hk (by simpa using hz) h0) (by unfold eR; rw [List.map_flatten, List.map_replicate])
theorem ev_lstR (xs : List α) (h : EvA X es σ F W (xs.map f) W1) (hz : xs.length ≤ 100000) : EvS X (.List es pos) σ F W (eR false f xs) W1 := ev_lst h (by simpa using hz)
theorem ev_tupR {x1} (xs : List α) (h : EvA X es σ F W (xs.map f) W1) (hz : xs.length ≤ 100000) : EvS X (.Tuple es x1 pos) σ F W (eR true f xs) W1 := ev_tup h (by simpa using hz)
/-- [*xs, ..] / (*xs, ..) -/
theorem ea_starR {ws : List α} (ha : EvS X e σ F W (eR t f xs) W1) (hr : EvA X es σ F W1 (ws.map f) W2) (hs : starEach (.Starred e p :: es) X.env = (true, eval e X.env) :: starEach es X.env := by rfl) : EvA X (.Starred e p :: es) σ F W ((xs ++ ws).map f) W2 :=
  ea_is (ea_star ha hr hs) (by rw [List.map_append])
theorem ea_consR {x : α} {ws : List α} (ha : EvS X e σ F W (f x) W1) (hr : EvA X es σ F W1 (ws.map f) W2) (hs : starEach (e :: es) X.env = (false, eval e X.env) :: starEach es X.env := by rfl) : EvA X (e :: es) σ F W ((x :: ws).map f) W2 := ea_cons ha hr hs
theorem ea_nilR : EvA X [] σ F W (([] : List α).map f) W := ea_nil
def enumT (xs : List α) : List (Int × α) := xs.zipIdx.map fun p => ((p.2 : Int), p.1)
theorem ei_enumR {elts : List Expr} {kk : Nat} {tpos : Pos} (hm : X.mg "enumerate" = none) (h : EvS X a σ F W (eR t f xs) W1) (hg : Gl X "enumerate" := by rfl) (hs : starEach [a] X.env = [(false, eval a X.env)] := by rfl) :
    EvI X (.Tuple elts kk tpos) (.Call (.Name "enumerate" p) [a] [] pos) σ F W ((enumT xs).map (eP D.int f)) W1 := by
  have e : (enumT xs).map (eP D.int f) = enumD (xs.map f) := by
    unfold enumT enumD
    rw [List.zipIdx_map, List.map_map, List.map_map]; rfl
  rw [e]
  exact ei_enum hm (ea_cons h ea_nil hs) hg hs
theorem ei_zipR {elts : List Expr} {kk : Nat} {tpos : Pos} (hm : X.mg "zip" = none) (ha : EvS X a σ F W (eR t f xs) W1) (hb : EvS X b σ F W1 (eR u g zs) W2) (hg : Gl X "zip" := by rfl) (hs : starEach [a, b] X.env = (false, eval a X.env) :: starEach [b] X.env := by rfl) (hs2 : starEach [b] X.env = (false, eval b X.env) :: starEach [] X.env := by rfl) (hpl : (backTo pos (starEach [b] X.env)).any (·.1) = false := by rfl) :
    EvI X (.Tuple elts kk tpos) (.Call (.Name "zip" p) [a, b] [] pos) σ F W ((xs.zip zs).map (eP f g)) W2 := by
  have e : (xs.zip zs).map (eP f g) = zipD (xs.map f) (zs.map g) := by
    unfold zipD
    rw [List.zip_map, List.map_map]; rfl
  rw [e]
  exact ei_zipG hm (ea_cons ha (ea_cons hb ea_nil hs2) hs) hg hs hpl
/-- comprehensions, typed -/
theorem lc_F {own : List (Str × Nat)} {scope : Scope} (pr : α → Bool) (el : α → β) (hi : EvI X tg iter σ F W (xs.map f) W1) (hz : xs.length ≤ 100000)
    (body : ∀ x ∈ xs, ∀ v F1, Same F F1 → Rep F1 v (f x) → Turn1 X scope (own.map (·.2)) tg ifs elt v σ F1 W1 (pr x) W1 (g (el x)) W1) : LcS X elt tg iter ifs scope own σ F W (eR false g ((xs.filter pr).map el)) W1 :=
  (lc_of (p := pr) (g := fun x => g (el x)) hi hz body).is (by unfold eR; rw [List.map_map]; rfl)
theorem lc_M {own : List (Str × Nat)} {scope : Scope} (el : α → β) (hi : EvI X tg iter σ F W (xs.map f) W1) (hz : xs.length ≤ 100000)
    (body : ∀ x ∈ xs, ∀ v F1, Same F F1 → Rep F1 v (f x) → Turn1 X scope (own.map (·.2)) tg ifs elt v σ F1 W1 true W1 (g (el x)) W1) : LcS X elt tg iter ifs scope own σ F W (eR false g (xs.map el)) W1 :=
  (lc_F (fun _ => true) el hi hz body).is (by rw [List.filter_eq_self.mpr (fun _ _ => rfl)])
/-- typed, drawing -/
theorem lc_KM {own : List (Str × Nat)} {scope : Scope} (WK : Nat → Hp) {k0 : Nat} (el : α → Nat → β × Nat) (hi : EvI X tg iter σ F W (xs.map f) (WK k0)) (hz : xs.length ≤ 100000)
    (body : ∀ x ∈ xs, ∀ k v F1, Same F F1 → Rep F1 v (f x) → Turn1 X scope (own.map (·.2)) tg ifs elt v σ F1 (WK k) true (WK k) (g (el x k).1) (WK (el x k).2)) :
    LcS X elt tg iter ifs scope own σ F W (eR false g (lcK (fun _ k => (true, k)) el xs k0).1) (WK (lcK (fun _ k => (true, k)) el xs k0).2) :=
  lc_K WK (fun _ k => (true, k)) el hi hz body
end
/-! ### a row is true unless empty -/
/-! ### three at once -/
theorem bl_par3 {i j l : Nat} {x y z : Str} {px py pz pt : Pos} {kt k2 pt2} (ha : EvA X [a, b, c] σ F W [d1, d2, d3] W1) (kk : ∀ v1 v2 v3 F1, Same F F1 → Rep F1 v1 d1 → Rep F1 v2 d2 → Rep F1 v3 d3 → BlkS X rest (((σ.set i (some v1)).set j (some v2)).set l (some v3)) F1 W1 A) (hi : X.N[i]? = some x := by rfl) (hj : X.N[j]? = some y := by rfl) (hl : X.N[l]? = some z := by rfl) (hij : i ≠ j := by decide) (hil : i ≠ l := by decide) (hjl : j ≠ l := by decide)
    (hx : X.env.scope.names.lookup x = some .local := by rfl) (hy : X.env.scope.names.lookup y = some .local := by rfl) (hz : X.env.scope.names.lookup z = some .local := by rfl) (hw : swappedStores [.Tuple [.Name x px, .Name y py, .Name z pz] kt pt] (.Tuple [a, b, c] k2 pt2) X.env = pure (some [x, y, z]) := by rfl)
    (hs : swapsWithSole [.Tuple [.Name x px, .Name y py, .Name z pz] kt pt] (.Tuple [a, b, c] k2 pt2) pos.line X.env = pure false := by rfl) (hc : X.calm = true := by rfl) (hN : X.N.Nodup := by first | assumption | decide +kernel) :
    BlkS X (.Assign [.Tuple [.Name x px, .Name y py, .Name z pz] kt pt] (.Tuple [a, b, c] k2 pt2) pos :: rest) σ F W A := fun H w E ok =>
  tmB_of (pss_cons (ps_par3 hc hN hi hj hl hij hil hjl hx hy hz pa_tm hw hs) pss_tm) (ha H w _ fun vs F1 H1 g r => by
    cases r with
    | cons r1 t =>
    cases t with
    | cons r2 t =>
    cases t with
    | cons r3 t =>
    cases t
    exact ⟨_, _, _, rfl, (kk _ _ _ F1 g.ex r1 r2 r3).run ok g⟩)
/-! ### for, with an early end: f tells what a turn makes of the state, or the end -/
def lpR {α S R : Type} (f : S → α → Except R S) : List α → S → Except R S
  | [], s => .ok s
  | x :: xs, s => match f s x with
    | .ok s' => lpR f xs s'
    | .error r => .error r
theorem lpR_app {α S R : Type} (f : S → α → Except R S) (ys : List α) : ∀ (xs : List α) (s : S), lpR f (xs ++ ys) s = match lpR f xs s with
    | .ok s' => lpR f ys s'
    | .error r => .error r
  | [], s => rfl
  | x :: xs, s => by
    simp only [List.cons_append, lpR]
    cases f s x with
    | ok s' => exact lpR_app f ys xs s'
    | error r => rfl
theorem bl_forR {α S R : Type} {xs : List α} {f : α → D} (hi : EvI X tg iter σ F W (xs.map f) W1) (st : S → α → Except R S) (s0 : S) (J : S → L2.St → Hp → Hp → Prop) (h0 : ∀ F1, Same F F1 → J s0 σ F1 W1)
    (hs : ∀ x ∈ xs, ∀ s, ∀ σ' F1 W', Same F F1 → J s σ' F1 W' → ∀ v F2, Same F1 F2 → Rep F2 v (f x) → TgT X tg v σ' F2 W' fun σ2 =>
      BlkS X body σ2 F2 W' { nx := fun σ3 F3 W3 => ∃ s', st s x = .ok s' ∧ J s' σ3 F3 W3, rt := fun d W3 => ∃ r, st s x = .error r ∧ (lpR st xs s0 = .error r → A.rt d W3), bk := fun σ' F' W' => ∃ r, st s x = .error r ∧ (lpR st xs s0 = .error r → BlkS X rest σ' F' W' A), ct := fun σ3 F3 W3 => ∃ s', st s x = .ok s' ∧ J s' σ3 F3 W3 })
    (hd : ∀ s, lpR st xs s0 = .ok s → ∀ σ' F1 W', Same F F1 → J s σ' F1 W' → BlkS X rest σ' F1 W' A) (hc : X.calm = true := by rfl) (hp : PassesOwn (model X.prog X.w) X.A X.env X.xe := by exact PassesOwn.never) (hf : ∀ x, foldedSetIterable iter X.env x = pure x := by intro _; rfl) :
    BlkS X (.For tg iter body [] pos :: rest) σ F W A :=
  bl_for (n := xs.length) hi (by rw [List.length_map]) (fun i σ' F' W' => ∃ s, lpR st (xs.take i) s0 = .ok s ∧ J s σ' F' W') (fun F1 e => ⟨s0, rfl, h0 F1 e⟩) (fun i d h σ' F1 W' e inv v F2 e2 r => by
    rw [List.getElem?_map, Option.map_eq_some_iff] at h
    obtain ⟨x, hx, rfl⟩ := h
    obtain ⟨s, hs1, inv⟩ := inv
    have hi' := (List.getElem?_eq_some_iff.mp hx).1
    have e1 : lpR st (xs.take (i + 1)) s0 = match st s x with
      | .ok s' => .ok s'
      | .error r => .error r := by
      rw [List.take_add_one, hx, lpR_app, hs1]
      show lpR st [x] s = _
      simp only [lpR]
    have hall : ∀ r, st s x = .error r → lpR st xs s0 = .error r := fun r hr => by
      have : xs = xs.take (i + 1) ++ xs.drop (i + 1) := (List.take_append_drop _ _).symm
      rw [this, lpR_app, e1, hr]
    intro H w Q k
    refine hs x (List.mem_of_getElem? hx) s σ' F1 W' e inv v F2 e2 r H w Q fun σ2 hb => k σ2 ?_
    intro H2 w2 E ok
    refine hb H2 w2 E ⟨fun σ' F' W' H' g q => ?_, fun d v F' W' H' g r q => ?_, fun σ' F' W' H' g q => ?_, fun σ' F' W' H' g q => ?_⟩
    · obtain ⟨s', hs', q⟩ := q
      exact ok.nx σ' F' W' H' g ⟨s', by rw [e1, hs'], q⟩
    · obtain ⟨r0, hr, q⟩ := q
      exact ok.rt d v F' W' H' g r (q (hall r0 hr))
    · obtain ⟨r0, hr, q⟩ := q
      exact ok.bk σ' F' W' H' g (q (hall r0 hr))
    · obtain ⟨s', hs', q⟩ := q
      exact ok.ct σ' F' W' H' g ⟨s', by rw [e1, hs'], q⟩) (fun σ' F1 W' e inv => by
    obtain ⟨s, hs1, inv⟩ := inv
    rw [List.take_length] at hs1
    exact hd s hs1 σ' F1 W' e inv) hc hp hf
end
end Z
set_option Elab.async false
set_option linter.all false
set_option maxRecDepth 100000
set_option maxHeartbeats 1000000
namespace Z
open PySem PySem.Spec PyProof.Rows L2
def ixI {α : Type} (d : α) (xs : List α) (i : Int) : α := (atI xs i).getD d
theorem ixI_nat {α : Type} {d : α} {xs : List α} {i : Nat} (h : i < xs.length) : ixI d xs (i : Int) = xs[i] := by
  unfold ixI atI ixN
  rw [if_pos (by omega), if_pos (by omega)]
  simp [h]
theorem ixI_pos {α : Type} {d : α} {xs : List α} {i : Int} (h0 : 0 ≤ i) (h : i < xs.length) : ixI d xs i = xs.getD i.toNat d := by
  unfold ixI atI ixN
  rw [if_pos (by omega), if_pos (by omega)]
  simp [List.getD_eq_getElem?_getD]
theorem ixI_at {α : Type} {d : α} {xs : List α} {i : Int} (h : -(xs.length : Int) ≤ i ∧ i < xs.length) : atI xs i = some (ixI d xs i) := by
  unfold ixI
  cases e : atI xs i with
  | some x => rfl
  | none =>
    exfalso
    unfold atI ixN at e
    by_cases h0 : 0 ≤ i
    · rw [if_pos h0, if_pos h.2] at e
      simp at e; omega
    · rw [if_neg h0, if_pos h.1] at e
      simp at e; omega
section
variable {X : Cx} {e a b c o tg iter elt : Expr} {es ifs : List Expr} {σ : L2.St} {F F1 W W1 W2 W3 : Hp} {d d1 d2 d3 : D} {ds : List D} {q q1 q2 : Bool} {pos p p2 apos : Pos} {i j : Int} {n k : Nat} {A : AE} {rest body sa sb : List Stmt}
theorem ev_gI {x : Str} (hm : ∃ t, X.mg x = some (.int i t)) (hg : Gl X x := by rfl) (hd : (x == ("__debug__" : Str)) = false := by decide) : EvS X (.Name x pos) σ F W (.int i) W := by
  obtain ⟨t, h⟩ := hm; exact ev_gint hg h hd
theorem ev_gS {x i : Str} (hm : ∃ t, X.mg x = some (.str i t)) (hg : Gl X x := by rfl) (hd : (x == ("__debug__" : Str)) = false := by decide) : EvS X (.Name x pos) σ F W (.str i) W := by
  obtain ⟨t, h⟩ := hm; exact ev_gstr hg h hd
theorem cm_isO {α : Type} {f : α → D} {x : Option α} (h : ∀ y, (f y).isN = false) : CmpR X .Is F W (eO f x) .non x.isNone := cm_is.is (by cases x with
  | none => rfl
  | some y => exact h y)
theorem cm_isnotO {α : Type} {f : α → D} {x : Option α} (h : ∀ y, (f y).isN = false) : CmpR X .IsNot F W (eO f x) .non (!x.isNone) := cm_isnot.is (by cases x with
  | none => rfl
  | some y => exact congrArg _ (h y))
theorem et_row {α : Type} {f : α → D} {xs : List α} {t : Bool} (h : EvS X e σ F W (eR t f xs) W1) (he : ∀ whole, isTrue e X.env whole = (do let v ← whole; standAt e.pos; holding [v] (truthy v)) := by intro _; rfl) : EvT X e σ F W (!decide (xs = [])) W1 := fun H w Q qq =>
  tmT_of (pt_truth pe_tm he) (h H w _ fun v F' H' g r => by
    obtain ⟨l, us, rfl, h1, s1, z1⟩ := Rep.sq_inv r
    refine ⟨_, ?_, qq F' H' g⟩
    have e : (!decide (xs = [])) = !us.isEmpty := by
      have := s1.length
      rw [List.length_map] at this
      cases xs with
      | nil => cases us with
        | nil => rfl
        | cons _ _ => simp at this
      | cons _ _ => cases us with
        | nil => simp at this
        | cons _ _ => simp
    rw [e]
    show (∃ xs, SqL X.K H' l xs ∧ (!us.isEmpty) = !xs.isEmpty) ∨ (∃ xs, SqT X.K H' l xs ∧ (!us.isEmpty) = !xs.isEmpty) ∨ ∃ kvs, H' l = some (.dK kvs) ∧ (!us.isEmpty) = !kvs.isEmpty
    have := sqo_of (K := X.K) g.st h1
    cases t with
    | false => exact .inl ⟨us, this, rfl⟩
    | true => exact .inr (.inl ⟨us, this, rfl⟩))
theorem et_int (h : EvS X e σ F W (.int i) W1) (he : ∀ whole, isTrue e X.env whole = (do let v ← whole; standAt e.pos; holding [v] (truthy v)) := by intro _; rfl) : EvT X e σ F W (!decide (i = 0)) W1 := fun H w Q qq =>
  tmT_of (pt_truth pe_tm he) (h H w _ fun v F' H' g r => by
    cases r
    refine ⟨_, ?_, qq F' H' g⟩
    show (!decide (i = 0)) = (i != 0)
    by_cases h : i = 0 <;> simp [h])
section
variable {α β γ : Type} [DecidableEq α] [DecidableEq β] [DecidableEq γ] {f : α → D} {g : β → D} {h : γ → D} {m1 m2 m3 : Nat}
theorem Lw.pairM (a : Lw f m1) (b : Lw g m2) : Lw (eP f g) (max m1 m2 + 1) := (a.mono (Nat.le_max_left _ _)).pair (b.mono (Nat.le_max_right _ _))
theorem Lw.tripM (a : Lw f m1) (b : Lw g m2) (c : Lw h m3) : Lw (eP3 f g h) (max m1 (max m2 m3) + 1) := (a.mono (Nat.le_max_left _ _)).triple (b.mono (Nat.le_trans (Nat.le_max_left _ _) (Nat.le_max_right _ _))) (c.mono (Nat.le_trans (Nat.le_max_right _ _) (Nat.le_max_right _ _)))
end
theorem ev_isRow {α : Type} {f : α → D} {xs : List α} {t : Bool} {y y2 : Str} {p3 : Pos} {k3 p4}
    (h : ∀ {T : String} {q q2 : Bool}, (Z.eR t f xs).ty = some T → kitB T "list" = some q → kitB T "tuple" = some q2 → EvS X (.Call (.Name "isinstance" p) [e, .Tuple [.Name y p2, .Name y2 p3] k3 p4] [] pos) σ F W (.bl (q || q2)) W1) : EvS X (.Call (.Name "isinstance" p) [e, .Tuple [.Name y p2, .Name y2 p3] k3 p4] [] pos) σ F W (.bl true) W1 := by
  cases t with
  | false => exact h (T := "list") (q := true) (q2 := false) rfl (by decide +kernel) (by decide +kernel)
  | true => exact h (T := "tuple") (q := false) (q2 := true) rfl (by decide +kernel) (by decide +kernel)
/-! ### ifs by value -/
theorem bl_whenR {α : Type} {f : α → D} {x y : α} {Wz : Hp} {N : L2.St → Hp → Hp → Prop} (hc : EvT X c σ F W q W1) (ha : q = true → BlkS X sa σ F W1 { nx := fun _ _ _ => False, rt := fun d' W2 => d' = f x ∧ W2 = Wz })
    (hb : q = false → BlkS X rest σ F W1 { nx := N, rt := fun d' W2 => d' = f y ∧ W2 = Wz }) : BlkS X (.If c sa [] pos :: rest) σ F W { nx := N, rt := fun d' W2 => d' = f (if q = true then x else y) ∧ W2 = Wz } :=
  bl_when hc (fun h => by
    subst h
    intro H w E ok
    exact ha rfl H w E ⟨fun σ' F' W' H' g k => k.elim, fun d v F' W' H' g r k => ok.rt d v F' W' H' g r k, fun σ' F' W' H' g k => k.elim, fun σ' F' W' H' g k => k.elim⟩) (fun h => by subst h; exact hb rfl)
theorem bl_ifR {α : Type} {f : α → D} {x y : α} {Wz : Hp} {N : L2.St → Hp → Hp → Prop} (hc : EvT X c σ F W q W1) (ha : q = true → BlkS X sa σ F W1 { nx := fun _ _ _ => False, rt := fun d' W2 => d' = f x ∧ W2 = Wz })
    (hb : q = false → BlkS X sb σ F W1 { nx := fun _ _ _ => False, rt := fun d' W2 => d' = f y ∧ W2 = Wz }) : BlkS X (.If c sa sb pos :: rest) σ F W { nx := N, rt := fun d' W2 => d' = f (if q = true then x else y) ∧ W2 = Wz } :=
  bl_if hc (fun h => by
    subst h
    intro H w E ok
    exact ha rfl H w E ⟨fun σ' F' W' H' g k => k.elim, fun d v F' W' H' g r k => ok.rt d v F' W' H' g r k, fun σ' F' W' H' g k => k.elim, fun σ' F' W' H' g k => k.elim⟩) (fun h => by
    subst h
    intro H w E ok
    exact hb rfl H w E ⟨fun σ' F' W' H' g k => k.elim, fun d v F' W' H' g r k => ok.rt d v F' W' H' g r k, fun σ' F' W' H' g k => k.elim, fun σ' F' W' H' g k => k.elim⟩)
theorem bl_never (hc : EvT X c σ F W q W1) (hq : q = false) (k : BlkS X rest σ F W1 A) : BlkS X (.If c sa [] pos :: rest) σ F W A := bl_when hc (fun h => absurd (hq.symm.trans h) (by decide)) fun _ => k
theorem bl_setLW {l : Addr} {vs : List V} {j : Int} {j' : Nat} {tpos : Pos} (he : EvS X e σ F W d W1) (ha : EvS X a σ F W1 (.ow l) W1) (hb : EvS X b σ F W1 (.int j) W1) (hw : W1 l = some (.lst vs)) (hj0 : j = (j' : Int)) (hj : j' < vs.length) (kk : ∀ v F1, Same F F1 → Rep F1 v d → BlkS X rest σ F1 (upd W1 l (.lst (vs.set j' v))) A)
    (hg : ∀ v, assign (.Subscript a b tpos) X.env v = (do
      let ov ← holding [v] (eval a X.env)
      let iv ← holding [v, ov] (eval b X.env)
      standAt tpos
      holding [v, ov, iv] (setItem ov iv v)
      release [v, ov, iv] []) := by intro _; rfl)
    (hs : swapsWithSole [.Subscript a b tpos] e pos.line X.env = pure false := by rfl) (hsw : swappedStores [.Subscript a b tpos] e X.env = pure none := by rfl) (h1 : (assignEach [.Subscript a b tpos] X.env).map (·.2) = [assign (.Subscript a b tpos) X.env] := by rfl) :
    BlkS X (.Assign [.Subscript a b tpos] e pos :: rest) σ F W A := fun H w E ok =>
  tmB_of (pss_cons (ps_asg pe_tm (pg_sub pe_tm pe_tm set_list hg) hs hsw h1) pss_tm) (he H w _ fun v F1 H1 g r => (ha.mono g.ex).then g fun v2 F2 H2 g2 g02 r2 => (hb.mono g02.ex).then g02 fun v3 F3 H3 g3 g03 r3 => by
    cases r2; cases r3
    refine ⟨l, vs, j, j', rfl, rfl, g03.st.w l _ hw, ?_, (kk v F3 g03.ex (r.mono (g2.ex.trans g3.ex))).run ok (g03.trans (Go.put g03.st hw))⟩
    unfold ixN
    subst hj0
    rw [if_pos (by omega), if_pos (by omega)]; simp)
end
section
variable {X : Cx} {tg iter : Expr} {σ : L2.St} {F W W1 : Hp} {pos : Pos} {A : AE} {rest body : List Stmt}
theorem bl_forS {α S : Type} {xs : List α} {f : α → D} (hi : EvI X tg iter σ F W (xs.map f) W1) (st : S → α → S) (s0 : S) (J : S → L2.St → Hp → Hp → Prop) (h0 : ∀ F1, Same F F1 → J s0 σ F1 W1)
    (hs : ∀ x ∈ xs, ∀ s, ∀ σ' F1 W', Same F F1 → J s σ' F1 W' → ∀ v F2, Same F1 F2 → Rep F2 v (f x) → TgT X tg v σ' F2 W' fun σ2 =>
      BlkS X body σ2 F2 W' { nx := J (st s x), rt := A.rt, bk := fun σ' F' W' => BlkS X rest σ' F' W' A, ct := J (st s x) })
    (hd : ∀ σ' F1 W', Same F F1 → J (xs.foldl st s0) σ' F1 W' → BlkS X rest σ' F1 W' A) (hc : X.calm = true := by rfl) (hp : PassesOwn (model X.prog X.w) X.A X.env X.xe := by exact PassesOwn.never) (hf : ∀ x, foldedSetIterable iter X.env x = pure x := by intro _; rfl) :
    BlkS X (.For tg iter body [] pos :: rest) σ F W A :=
  bl_forL hi st s0 J h0 (fun pr x po e σ' F1 W' e1 j v F2 e2 r => hs x (by rw [e]; simp) _ σ' F1 W' e1 j v F2 e2 r) hd hc hp hf
theorem bl_nilJ {S : Type} {J : S → L2.St → Hp → Hp → Prop} {s1 s2 : S} {R : D → Hp → Prop} {B C : L2.St → Hp → Hp → Prop} (e : s1 = s2) (h : J s2 σ F W) : BlkS X [] σ F W { nx := J s1, rt := R, bk := B, ct := C } := bl_nil (by rw [e]; exact h)
end
theorem rg_mem {lo hi x : Int} : x ∈ rg lo hi ↔ lo ≤ x ∧ x < hi := by
  unfold rg
  rw [List.mem_map]
  constructor
  · rintro ⟨i, hi', rfl⟩
    rw [List.mem_range] at hi'
    omega
  · intro h
    exact ⟨(x - lo).toNat, by rw [List.mem_range]; omega, by omega⟩
theorem rep_len {α : Type} {f : α → D} {t : Bool} {xs : List α} {F : Hp} {v : V} (r : Rep F v (eR t f xs)) : xs.length ≤ 100000 := by
  obtain ⟨_, _, _, _, _, z⟩ := Rep.sq_inv r
  rw [List.length_map] at z; exact z
theorem enumT_len {α : Type} {xs : List α} : (enumT xs).length = xs.length := by unfold enumT; rw [List.length_map, List.length_zipIdx]
theorem enumT_mem {α : Type} {xs : List α} {x : Int × α} (h : x ∈ enumT xs) : 0 ≤ x.1 ∧ x.1 < xs.length ∧ x.2 ∈ xs := by
  unfold enumT at h
  rw [List.mem_map] at h
  obtain ⟨p, hp, rfl⟩ := h
  obtain ⟨a, i⟩ := p
  have := List.mem_zipIdx hp
  simp only at this ⊢
  refine ⟨by omega, by omega, ?_⟩
  obtain ⟨_, h2, h3⟩ := this
  rw [h3]; exact List.getElem_mem _
end Z
set_option Elab.async false
set_option linter.all false
set_option maxRecDepth 100000
set_option maxHeartbeats 1000000
namespace Z
open PySem PySem.Spec PyProof.Rows L2
section
variable {X : Cx} {F W W1 : Hp} {σ : L2.St} {tg iter : Expr} {pos : Pos} {A : AE} {rest body : List Stmt}
theorem cr_sumT (hc : X.calm = true) : CallR X (.builtin "sum") (fun vs H Q => ∃ (a : Addr) (ns : List Int), vs = [V.ref a] ∧ SqT X.K H a (ns.map V.int) ∧ Q (.int ns.sum) H) := by
  intro pins s σ H vs us Q I r h
  obtain ⟨a, ns, rfl, hs, q⟩ := h
  obtain ⟨its, rv, tp, _⟩ := I.tuple hs
  rw [Vals.ref1 r]
  have hi := rv.ints
  obtain ⟨xs, e⟩ := hi.allInts.items
  have hn : numsOf (intItems xs).toList = ns := by rw [← e]; exact hi.numsOf
  rw [nums_intItems] at hn
  rw [e] at tp
  have tp' : s.heap.IsTuple a (intItems xs) := tp
  have hlt : a < s.heap.objs.size := by obtain ⟨o, ho, _⟩ := id tp'; exact Heap.lt_size ho
  refine call_sum_walkG (wpAny_pyIter_tuple tp' ?_)
  refine ⟨s.heap.objs.size, [s.heap.objs.size, a], [s.heap.objs.size], (intItems xs).size, _, _, numAt xs, rfl, Walks.tuple (by exact I.ok.hd hc) _ a (Nat.ne_of_lt hlt) (intItems xs), ⟨⟨_, Heap.get?_push_size _ rfl, rfl, rfl⟩, tp'.push _⟩, ?_, ?_, ?_⟩
  · intro b hb
    have : (s.heap.push { cls := .type "tuple_iterator", data := .fields #[.ref a, .int 0 0] }).objs.size = s.heap.objs.size + 1 := by simp [Heap.push]
    rcases List.mem_cons.mp hb with e | hb
    · rw [e]; show _ < (s.heap.push _).objs.size; omega
    · rw [List.mem_singleton.mp hb]; show _ < (s.heap.push _).objs.size; rw [this]; exact Nat.lt_succ_of_lt hlt
  · intro i v hv
    exact intItems_at hv
  · intro h' tk t' hk
    have keep : ∀ b o, s.heap.get? b = some o → h'.get? b = some o := fun b o e => hk b o (fun hm => absurd (Heap.lt_size e) (by rw [List.mem_singleton.mp hm]; exact Nat.lt_irrefl _)) (Heap.get?_push_of_some _ e)
    refine ⟨.int ns.sum, H, I.kept keep, ⟨t', ?_⟩, q⟩
    have hsz : (intItems xs).size = xs.size := by unfold intItems; simp
    rw [preSum_eq, List.take_of_length_le (by simp [hsz]), hn]
theorem cl_sumT {ns : List Int} (hc : X.calm = true := by rfl) : CalR X (.builtin "sum") F W [eR true D.int ns] (.int ns.sum) := ⟨_, cr_sumT hc, fun vs F1 H1 _ r w Q q => by
  cases r with
  | cons r t =>
    cases t
    obtain ⟨l, rfl, h1, z⟩ := rep_ints r
    exact ⟨l, ns, rfl, sqo_of (t := true) w h1, q _ F1 H1 (Go.refl w) (.int _)⟩⟩
theorem en_repR {α : Type} {f : α → D} {a b : Expr} {pos : Pos} {xs : List α} {k : Int} {W2 : Hp} (ha : EvS X a σ F W (eR false f xs) W1) (hb : EvS X b σ F W1 (.int k) W2) (hk : k ≤ 100000) (hz : xs.length * k.toNat ≤ 100000) (h0 : -100000 ≤ k) : EvN X (.BinOp a .Mult b pos) σ F W (((List.replicate k.toNat xs).flatten).map f) W2 := by
  have := en_rep (pos := pos) ha hb hk (by simpa using hz) h0
  rw [List.map_flatten, List.map_replicate]; exact this
theorem en_listR {α : Type} {f : α → D} {e : Expr} {p pos : Pos} {xs : List α} {t : Bool} (hm : X.mg "list" = none) (ha : EvS X e σ F W (eR t f xs) W1) (hv : bootBuiltins "list" = some (.type "list") := by decide +kernel) (hg : Gl X "list" := by rfl) (he : starEach [e] X.env = (false, eval e X.env) :: starEach [] X.env := by rfl) : EvN X (.Call (.Name "list" p) [e] [] pos) σ F W (xs.map f) W1 := en_list (y := "list") hm (ea_cons ha ea_nil he) hv hg he
theorem bl_forI {α S : Type} {xs : List α} {f : α → D} (hi : EvI X tg iter σ F W (xs.map f) W1) (st : S → α → S) (s0 : S) (J : Nat → S → L2.St → Hp → Hp → Prop) (h0 : ∀ F1, Same F F1 → J 0 s0 σ F1 W1)
    (hs : ∀ i x, i < xs.length → x ∈ xs → ∀ s, ∀ σ' F1 W', Same F F1 → J i s σ' F1 W' → ∀ v F2, Same F1 F2 → Rep F2 v (f x) → TgT X tg v σ' F2 W' fun σ2 =>
      BlkS X body σ2 F2 W' { nx := J (i + 1) (st s x), rt := A.rt, bk := fun σ' F' W' => BlkS X rest σ' F' W' A, ct := J (i + 1) (st s x) })
    (hd : ∀ σ' F1 W', Same F F1 → J xs.length (xs.foldl st s0) σ' F1 W' → BlkS X rest σ' F1 W' A) (hc : X.calm = true := by rfl) (hp : PassesOwn (model X.prog X.w) X.A X.env X.xe := by exact PassesOwn.never) (hf : ∀ x, foldedSetIterable iter X.env x = pure x := by intro _; rfl) :
    BlkS X (.For tg iter body [] pos :: rest) σ F W A :=
  bl_for (n := xs.length) hi (by rw [List.length_map]) (fun i => J i ((xs.take i).foldl st s0)) h0 (fun i d h σ' F1 W' e inv v F2 e2 r => by
    rw [List.getElem?_map, Option.map_eq_some_iff] at h
    obtain ⟨x, hx, rfl⟩ := h
    have hi' := (List.getElem?_eq_some_iff.mp hx).1
    have e1 : (xs.take (i + 1)).foldl st s0 = st ((xs.take i).foldl st s0) x := by rw [List.take_add_one, hx, List.foldl_append]; rfl
    rw [e1]
    exact hs i x hi' (List.mem_of_getElem? hx) _ σ' F1 W' e inv v F2 e2 r) (fun σ' F1 W' e inv => hd σ' F1 W' e (by rw [List.take_length] at inv; exact inv)) hc hp hf
end
end Z
set_option Elab.async false
set_option linter.all false
set_option maxRecDepth 100000
set_option maxHeartbeats 1000000
namespace ZSort
open PySem PyProof.Rows Srt SrtO PyProof.Rows
section
variable {prog : Program} {w : World} {A : Around} {E : Value → Shared → Prop} {s : Shared}
/-- all of a tuple, into a new list -/
theorem collect_row {l : Addr} {vs : List Value} {Q : List Value → Shared → Prop} (hl : s.heap.IsTuple l vs.toArray)
    (h : Q vs { s with heap := (s.heap.push (seqObj "list" #[] 0)).update s.heap.objs.size (Obj.mapSeq (· ++ vs.toArray)) }) (hsz : vs.length ≤ sizeLine) :
    wpAny (model prog w) A (collect (.ref l)) Q E s := by
  obtain ⟨o, ho, hc, n, hd⟩ := id hl
  unfold collect
  refine wpAny_bind (wpAny_runValue (codeAny_builtin entry_proto_collect' ?_))
  show wpAny _ _ (do again (.builtin "list.__iadd__" ⟨[← newList [], .ref l], []⟩)) _ _ s
  refine wpAny_bind (wpAny_newList (wpAny_pure ⟨Code.quiet_builtin _ (by decide +kernel), codeAny_builtin entry_list_iadd' ?_⟩))
  show wpAny _ _ (Builtin.List.listExtendWith (.ref s.heap.objs.size) (.ref l) (.ref s.heap.objs.size)) _ _ { s with heap := s.heap.push (seqObj "list" #[] 0) }
  unfold Builtin.List.listExtendWith
  have ho' : (s.heap.push (seqObj "list" #[] 0)).get? l = some o := Heap.get?_push_of_some _ ho
  refine wpAny_bind (wpAny_typeOf (T := "tuple") ⟨o, ho', hc⟩ ?_)
  have ht : (Value.type "tuple" == Value.type "tuple") = true := by rfl
  rw [if_pos (by rw [ht]; simp)]
  refine wpAny_bind (listItems_at ho' hd ?_)
  refine wpAny_bind (listItems_at (xs := #[]) (n := 0) (Heap.get?_push_size _ rfl) rfl ?_)
  rw [if_neg (by simp)]
  refine wpAny_bind (listUpdate_at (xs := #[]) (n := 0) (Heap.get?_push_size _ rfl) rfl ?_ (Nat.zero_le _) (by show (#[] ++ vs.toArray).size ≤ sizeLine + 1; simp only [Array.size_append, List.size_toArray, List.length_nil]; omega))
  refine wpAny_pure ?_
  show wpAny (model prog w) A (do
      let o ← load s.heap.objs.size
      match o.data with
      | .seq xs _ => pure xs.toList
      | _ => unsupported "internal:collect") Q E { s with heap := (s.heap.push (seqObj "list" #[] 0)).update s.heap.objs.size (Obj.mapSeq (· ++ vs.toArray)) }
  refine wpAny_bind (wpAny_load (get?_update_seq (Heap.get?_push_size _ rfl) _) ?_)
  show wpAny _ _ (pure ((#[] : Array Value) ++ vs.toArray).toList) Q E _
  rw [show ((#[] : Array Value) ++ vs.toArray).toList = vs by simp]
  exact wpAny_pure h
theorem sorted_row {l : Addr} {vs : List Value} {ltv : Value → Value → Bool} {Q : Value → Shared → Prop} (O : Swo ltv) (hl : s.heap.IsTuple l vs.toArray) (hz : vs.length ≤ sizeLine)
    (hS : 2 ≤ vs.length → ∀ (h₁ : Heap) (a : Addr), h₁.get? a = some (seqObj "list" vs.toArray 0) → (∀ b o, s.heap.get? b = some o → b ≠ a ∧ h₁.get? b = some o) → SortableO prog w A.in1.in1 { s with heap := h₁ } a vs ltv)
    (h : ∀ out : List Value, Srtd ltv out → Stb ltv out vs → Q (.ref (s.heap.objs.size + 1)) { s with heap := sortedAll s.heap vs out.toArray }) :
    wpAny (model prog w) A (call (.builtin "sorted") [.ref l]) Q E s := by
  refine Calls.call_function_entry kind_sorted plain_sorted entry_sorted (args_sorted1 _) ?_
  unfold Builtin.«sorted»
  refine wpAny_bind (m := checkCount "sorted" 1 1 _) (wpAny_pure ?_)
  refine wpAny_bind (collect_row hl ?_ hz)
  refine wpAny_bind (wpAny_newList ?_ hz)
  have hsz : ((s.heap.push (seqObj "list" #[] 0)).update s.heap.objs.size (Obj.mapSeq (· ++ vs.toArray))).objs.size = s.heap.objs.size + 1 := by
    rw [Heap.size_update, size_push']
  have hoL : (((s.heap.push (seqObj "list" #[] 0)).update s.heap.objs.size (Obj.mapSeq (· ++ vs.toArray))).push (seqObj "list" vs.toArray 0)).get? (s.heap.objs.size + 1) = some (seqObj "list" vs.toArray 0) := by
    rw [← hsz]; exact Heap.get?_push_size _ rfl
  have keep : ∀ b o, s.heap.get? b = some o → b ≠ s.heap.objs.size + 1 ∧ (((s.heap.push (seqObj "list" #[] 0)).update s.heap.objs.size (Obj.mapSeq (· ++ vs.toArray))).push (seqObj "list" vs.toArray 0)).get? b = some o := fun b o q => by
    have hlt : b < s.heap.objs.size := Heap.lt_size q
    refine ⟨Nat.ne_of_lt (Nat.lt_succ_of_lt hlt), Heap.get?_push_of_some _ ?_⟩
    rw [Heap.get?_update_ne _ _ _ _ (Nat.ne_of_lt hlt)]
    exact Heap.get?_push_of_some _ q
  show wpAny _ _ _ _ _ { s with heap := ((s.heap.push (seqObj "list" #[] 0)).update s.heap.objs.size (Obj.mapSeq (· ++ vs.toArray))).push (seqObj "list" vs.toArray 0) }
  rw [hsz]
  refine wpAny_bind (wpAny_holding (wpAny_call_entry slot_list_sort ⟨_, hoL, rfl⟩ entry_list_sort (list_sort_ord O hoL hz (fun h2 => hS h2 _ _ hoL keep) fun out hs hb => ⟨_, rfl, ?_⟩) (args_list_sort _)))
  exact wpAny_pure ⟨_, rfl, h out hs hb⟩
end
end ZSort
namespace Z
open PySem PySem.Spec PyProof.Rows L2
section
variable {X : Cx} {F W W1 : Hp}
theorem cr_sortedTI : CallR X (.builtin "sorted") (fun vs H Q => ∃ (a : Addr) (ns : List Int), vs = [V.ref a] ∧ SqT X.K H a (ns.map V.int) ∧ ∀ (ns' : List Int) (p : Addr), ns'.Perm ns → ns'.Pairwise (· ≤ ·) → H p = none → Q (.ref p) (upd H p (.lst (ns'.map V.int)))) := by
  intro pins s σ H vs us Q I r h
  obtain ⟨a, ns, rfl, hs, q⟩ := h
  obtain ⟨its, rv, hl, hz⟩ := I.tuple hs
  rw [Vals.ref1 r]
  have hi := rv.ints
  refine ZSort.sorted_row SrtO.swo_int hl (by rw [← rv.length]; exact hz) (fun h2 h₁ a' _ _ => SrtO.ints_sortable hi h2) fun out h1 h2 => ?_
  obtain ⟨k1, k2, k3⟩ := SrtO.ints_out hi h1 h2
  obtain ⟨ep, he'⟩ := PyProof.Rows.sortedAll_at s.heap its out.toArray
  have hlen : ((out.map SrtO.iv).map V.int).length ≤ sizeLine := by
    rw [List.length_map, k2.length_eq]
    rw [List.length_map] at hz
    exact hz
  exact ⟨.ref _, upd H (s.heap.objs.size + 1) (.lst ((out.map SrtO.iv).map V.int)), I.laid (t' := s.toks) (fun _ _ => PyProof.Rows.sortedAll_old) (Nat.le_succ _) ⟨hlen, out, ep, vals_of_ints k1, he'⟩, rfl, q _ _ k2 k3 (I.hok.fresh (Nat.le_succ _))⟩
theorem cl_sortedT {ns : List Int} : CalR X (.builtin "sorted") F W [eR true D.int ns] (eR false D.int (sortI ns)) := ⟨_, cr_sortedTI, fun vs F1 H1 _ r w Q q => by
  cases r with
  | cons r t =>
    cases t
    obtain ⟨l, rfl, h1, z⟩ := rep_ints r
    refine ⟨l, ns, rfl, sqo_of (t := true) w h1, fun ns' p hp hs hn => ?_⟩
    have e : ns' = sortI ns := PySem.W.os_sorted_mergeSort hp hs
    subst e
    exact q _ _ _ (Go.new w hn) (.sq (t := false) upd_same (Reps.of_ints _) (by rw [List.length_map, hp.length_eq]; exact z))⟩
theorem cl_sortedB {ns : List Int} : ∀ {t : Bool}, CalR X (.builtin "sorted") F W [eR t D.int ns] (eR false D.int (sortI ns))
  | true => cl_sortedT
  | false => cl_sortedI
end
theorem sortI_perm (ns : List Int) : (sortI ns).Perm ns := List.mergeSort_perm _ _
theorem sortI_mem {ns : List Int} {x : Int} : x ∈ sortI ns ↔ x ∈ ns := (sortI_perm ns).mem_iff
theorem sortI_len (ns : List Int) : (sortI ns).length = ns.length := (sortI_perm ns).length_eq
end Z
set_option Elab.async false
set_option linter.all false
set_option maxRecDepth 100000
set_option maxHeartbeats 1000000
namespace ZPl
open PySem PySem.Spec PySem.Calls PyProof.Rows L2 PySem.W
/-- a class with object's own __init__ -/
structure MkP (K : Frag) (C : Addr) : Prop where
  makes : makesIn K C = true
  init : findIn K (.ref C) "__init__" = some (some (.builtin "object.__init__"))
  kp : keepIn K (.ref C) = true
  top : mroIn K C (.type "object") = some true
section
variable {X : Cx} {C : Addr} {pins : List (Addr × Obj)} {σ : L2.St} {H : Hp} {s : Shared} {Q : VK}
theorem run_plain (M : MkP X.K C) (I : L2.Inv X pins σ H s) (h : ∀ x dx, H x = none → H dx = none → dx ≠ x → Q (.ref x) (upd (upd H dx (.own x)) x (.ins C dx []))) :
    wpAny (model X.prog X.w) X.A (call (.ref C) []) (EP X pins σ Q) X.xe s := by
  have hq := h (s.heap.objs.size + 1) s.heap.objs.size (I.hok.fresh (Nat.le_succ _)) (I.hok.fresh (Nat.le_refl _)) (Nat.ne_of_lt (Nat.lt_succ_self _))
  have I2 := Inv.made (C := C) I
  refine wpAny_call (make_map0 I.kIn M.makes M.init (fun self => Looks.of_pure (PySem.W.oi_bind _)) ?_)
  have ho : ((s.heap.push emptyDict).push (instObj C s.heap.objs.size)).get? (s.heap.objs.size + 1) = some (instObj C s.heap.objs.size) := by
    have e : (s.heap.push emptyDict).objs.size = s.heap.objs.size + 1 := Heap.size_push ..
    rw [← e]; exact Heap.get?_push_size _ rfl
  have t1 : Looks (model X.prog X.w) ((s.heap.push emptyDict).push (instObj C s.heap.objs.size)) (typeOf (.ref (s.heap.objs.size + 1))) (.ref C) := NwA.type_at ho rfl
  have t2 : Looks (model X.prog X.w) ((s.heap.push emptyDict).push (instObj C s.heap.objs.size)) (isInstance (.ref (s.heap.objs.size + 1)) (.type "object")) true := t1.andThen (looks_mroIn I2.kIn M.top)
  refine codeAny_call_builtin PySem.W.oi_plain PySem.W.entry_oi (@check_slot (model X.prog X.w) _ _ _ "object.__init__" "object" "__init__" (.ref (s.heap.objs.size + 1)) [] [] _ PySem.W.oi_kind PySem.W.oi_split t2 (PySem.W.oi_args _) ?_)
  rw [PySem.W.oi_run]
  exact wpAny_pure ⟨rfl, ⟨V.ref (s.heap.objs.size + 1), _, I2, rfl, hq⟩⟩
end
end ZPl
namespace Z
open PySem PySem.Spec PyProof.Rows L2
section
variable {X : Cx} {σ : L2.St} {F W : Hp} {C : Addr} {x : Str} {p pos : Pos}
theorem ev_plain (M : ZPl.MkP X.K C) (hm : X.mg x = some (.ref C)) (hg : Gl X x := by rfl) (hdb : (x == ("__debug__" : Str)) = false := by decide) : EvS X (.Call (.Name x p) [] [] pos) σ F W (.ob C []) W := fun H w Q q => by
  refine fun pins s I => wpAny_Call_Name_kw (ld_glob I hg hm ?_ hdb)
  refine PySem.W.callWith_K0 I.kIn M.kp (ZPl.run_plain M I fun a dx hx hd ne => ?_)
  have gm := Go.made (C := C) w hx hd ne
  have f1 := Go.freeze gm.st (p := a) upd_same
  have e1 : del (upd (upd W dx (.own a)) a (.ins C dx [])) a = upd W dx (.own a) := del_upd (by rw [upd_ne (Ne.symm ne)]; exact (w.fresh hx).2)
  rw [e1] at f1
  have f2 := Go.freeze f1.st (p := dx) upd_same
  rw [del_upd (w.fresh hd).2] at f2
  exact q _ _ _ (gm.trans (f1.trans f2)) (.ob (C := C) (dx := dx) (f2.ex _ _ upd_same) .nil)
end
end Z
set_option Elab.async false
set_option linter.all false
set_option maxRecDepth 100000
set_option maxHeartbeats 1000000
namespace Z
open PySem PySem.Spec PyProof.Rows L2
section
variable {X : Cx} {e a b a2 b2 c : Expr} {σ : L2.St} {F F1 W W1 W2 W3 : Hp} {d d1 d2 d3 : D} {q : Bool} {pos p t1p t2p tp : Pos} {A : AE} {rest body : List Stmt}
/-- l[i], l[j] = x, y -/
theorem bl_set2 {l : Addr} {vs : List V} {j1 j2 : Int} {n1 n2 kt : Nat} (he : EvS X e σ F W (.sq true [d1, d2]) W1) (ha : EvS X a σ F W1 (.ow l) W1) (hb : EvS X b σ F W1 (.int j1) W1) (hw : W1 l = some (.lst vs))
    (ha2 : ∀ v, EvS X a2 σ F (upd W1 l (.lst (vs.set n1 v))) (.ow l) (upd W1 l (.lst (vs.set n1 v)))) (hb2 : ∀ v, EvS X b2 σ F (upd W1 l (.lst (vs.set n1 v))) (.int j2) (upd W1 l (.lst (vs.set n1 v))))
    (e1 : j1 = (n1 : Int)) (h1 : n1 < vs.length) (e2 : j2 = (n2 : Int)) (h2 : n2 < vs.length) (kk : ∀ v1 v2 F1, Same F F1 → Rep F1 v1 d1 → Rep F1 v2 d2 → BlkS X rest σ F1 (upd W1 l (.lst ((vs.set n1 v1).set n2 v2))) A)
    (hg : ∀ v, assign (.Subscript a b t1p) X.env v = (do
      let ov ← holding [v] (eval a X.env)
      let iv ← holding [v, ov] (eval b X.env)
      standAt t1p
      holding [v, ov, iv] (setItem ov iv v)
      release [v, ov, iv] []) := by intro _; rfl)
    (hg2 : ∀ v, assign (.Subscript a2 b2 t2p) X.env v = (do
      let ov ← holding [v] (eval a2 X.env)
      let iv ← holding [v, ov] (eval b2 X.env)
      standAt t2p
      holding [v, ov, iv] (setItem ov iv v)
      release [v, ov, iv] []) := by intro _; rfl)
    (hs : swapsWithSole [.Tuple [.Subscript a b t1p, .Subscript a2 b2 t2p] kt tp] e pos.line X.env = pure false := by rfl) (hsw : swappedStores [.Tuple [.Subscript a b t1p, .Subscript a2 b2 t2p] kt tp] e X.env = pure none := by rfl)
    (hA : (assignEach [.Tuple [.Subscript a b t1p, .Subscript a2 b2 t2p] kt tp] X.env).map (·.2) = [assign (.Tuple [.Subscript a b t1p, .Subscript a2 b2 t2p] kt tp) X.env] := by rfl)
    (hn : (assignEach [.Subscript a b t1p, .Subscript a2 b2 t2p] X.env).length = 2 := by rfl) (hst : (assignEach [.Subscript a b t1p, .Subscript a2 b2 t2p] X.env).findIdx? (·.1) = none := by rfl)
    (hs1 : (assignEach [.Subscript a b t1p, .Subscript a2 b2 t2p] X.env).map (·.2) = assign (.Subscript a b t1p) X.env :: (assignEach [.Subscript a2 b2 t2p] X.env).map (·.2) := by rfl)
    (hs2 : (assignEach [.Subscript a2 b2 t2p] X.env).map (·.2) = assign (.Subscript a2 b2 t2p) X.env :: (assignEach [] X.env).map (·.2) := by rfl) (hc : X.calm = true := by rfl) :
    BlkS X (.Assign [.Tuple [.Subscript a b t1p, .Subscript a2 b2 t2p] kt tp] e pos :: rest) σ F W A := fun H w E ok =>
  tmB_of (pss_cons (ps_asg pe_tm (pg_tup hc (pgs_cons (pg_sub pe_tm pe_tm set_list hg) (pgs_cons (pg_sub pe_tm pe_tm set_list hg2) pgs_nil hs2) hs1) hn hst) hs hsw hA) pss_tm) (he H w _ fun v F1 H1 g r => by
    obtain ⟨l0, us, rfl, hl0, rs, z⟩ := r.sq_inv
    cases rs with
    | @cons u1 _ _ _ r1 rs =>
    cases rs with
    | @cons u2 _ _ _ r2 rs =>
    cases rs
    refine ⟨l0, _, rfl, sqo_of (t := true) g.st hl0, rfl, _, _, rfl, (ha.mono g.ex).then g fun v2 F2 H2 g2 g02 q2 => (hb.mono g02.ex).then g02 fun v3 F3 H3 g3 g03 q3 => ?_⟩
    cases q2; cases q3
    refine ⟨l, vs, j1, n1, rfl, rfl, g03.st.w l _ hw, ?_, ?_⟩
    · unfold ixN; subst e1; rw [if_pos (by omega), if_pos (by omega)]; simp
    have gp := g03.trans (Go.put (o := .lst (vs.set n1 u1)) g03.st hw)
    refine ⟨_, _, rfl, ((ha2 _).mono gp.ex).then gp fun v4 F4 H4 g4 g04 q4 => ((hb2 _).mono g04.ex).then g04 fun v5 F5 H5 g5 g05 q5 => ?_⟩
    cases q4; cases q5
    refine ⟨l, _, j2, n2, rfl, rfl, g05.st.w l _ upd_same, ?_, rfl, ?_⟩
    · unfold ixN; subst e2; rw [if_pos (by omega), if_pos (by rw [List.length_set]; omega)]; simp
    have gq := g05.trans (Go.put (o := .lst ((vs.set n1 u1).set n2 u2)) g05.st upd_same)
    rw [upd_upd] at gq
    exact (kk _ _ F5 g05.ex (r1.mono (g2.ex.trans (g3.ex.trans (g4.ex.trans g5.ex)))) (r2.mono (g2.ex.trans (g3.ex.trans (g4.ex.trans g5.ex))))).run ok gq)
/-- the script-reading cell -/
def WK (Wb : Hp) (dl sa : Addr) (k : Nat) : Hp := upd Wb dl (.lst [.ref sa, .int (k : Int)])
theorem WK_at {Wb : Hp} {dl sa : Addr} {k : Nat} : WK Wb dl sa k dl = some (.lst [.ref sa, .int (k : Int)]) := upd_same
theorem WK_next {Wb : Hp} {dl sa : Addr} {k : Nat} : upd (WK Wb dl sa k) dl (.lst [.ref sa, .int ((k : Int) + 1)]) = WK Wb dl sa (k + 1) := by unfold WK; rw [upd_upd]; rfl
/-- an if whose branch goes on -/
theorem bl_drop {l : Addr} {vs : List V} {ds : List D} {sts : List Stmt} (hw : W l = none) (r : Reps F vs ds) (hz : ds.length ≤ 100000) (k : ∀ F1, Same F F1 → BlkS X sts σ F1 W A) : BlkS X sts σ F (upd W l (.lst vs)) A :=
  bl_freeze upd_same r hz fun F1 e _ => by rw [del_upd hw]; exact k F1 e
end
section
variable {α β : Type} {t : α → Nat → Bool × Nat} {f : α → Nat → β × Nat}
theorem lcK_all {P : β → Prop} (h : ∀ x k, P (f x k).1) : ∀ (xs : List α) (k : Nat), ∀ y ∈ (lcK t f xs k).1, P y
  | [], _, y, hy => by simp [lcK] at hy
  | x :: xs, k, y, hy => by
    unfold lcK at hy
    split at hy
    · rcases List.mem_cons.mp hy with e | hy
      · rw [e]; exact h _ _
      · exact lcK_all h xs _ y hy
    · exact lcK_all h xs _ y hy
theorem lcK_len (ht : ∀ x k, (t x k).1 = true) : ∀ (xs : List α) (k : Nat), (lcK t f xs k).1.length = xs.length
  | [], _ => rfl
  | x :: xs, k => by
    unfold lcK
    rw [if_pos (ht x k), List.length_cons, List.length_cons, lcK_len ht xs]
theorem lcK_sub {f : α → Nat → α × Nat} (hf : ∀ x k, (f x k).1 = x) : ∀ (xs : List α) (k : Nat), ((lcK t f xs k).1).Sublist xs
  | [], _ => .slnil
  | x :: xs, k => by
    unfold lcK
    split
    · show List.Sublist (_ :: _) _
      rw [hf]; exact (lcK_sub hf xs _).cons_cons x
    · exact (lcK_sub hf xs _).cons x
end
end Z
set_option Elab.async false
set_option linter.all false
set_option maxRecDepth 100000
set_option maxHeartbeats 1000000
namespace Z
open PySem PySem.Spec PyProof.Rows L2
section
variable {X : Cx} {e a b : Expr} {σ : L2.St} {F F1 W W1 W2 : Hp} {q : Bool} {pos p : Pos} {C : Addr} {fds : List (Str × D)} {rel : Rel} {k : Nat} {ps : List Str}
theorem ev_notO (h : EvS X e σ F W (.ob C fds) W1) (Me : MeD X.prog X.w X.K X.mg X.base k C "__bool__" ps rel) (hr : Room k X.A) (hrel : ∀ F1, Same F F1 → rel [.ob C fds] F1 W1 (.bl q) W2) : EvS X (.UnaryOp .Not e pos) σ F W (.bl (!q)) W2 := fun H w Q qq pins s I =>
  UnaryOp_ (thn (h H w _ (fun v F1 H1 g r => (⟨F1, g, r⟩ : ∃ F1, Go F W H F1 W1 H1 ∧ Rep F1 v (.ob C fds))) pins s I) fun v s1 ⟨x, H1, I1, r1, F1, g, r⟩ => by
    obtain ⟨y, dx, vs, e1, h1, rf⟩ := id r.ob_inv
    subst e1
    cases r1
    exact not_of (run_bool (Q := fun c s' => EP X pins σ Q (.bool (!c)) s') Me hr rfl (hrel F1 g.ex) I1 g.st r fun F' H' s' g' I' => ⟨.bl (!q), H', I', rfl, qq _ F' H' (g.trans g') (.bl _)⟩))
end
theorem tuple_mul1 (l : Addr) (items : Array Value) (n : Nat) (dd : Option Addr) (sl : Array (Option Value)) (u : Tok) :
    Meets (Builtin.«tuple.__mul__» ⟨[.ref l, .int 1 u], []⟩) (fun _ R s => s.heap.get? l = some { cls := .type "tuple", dict := dd, data := .seq items n, slots := sl } ∧ R (.ok (.ret (Value.ref l))) s) :=
  .of_wp fun prog w A R s h => by
    obtain ⟨hp, g, d, tk, os⟩ := s
    obtain ⟨hl, h⟩ := h
    have f1 := AutoSeq1.idx_int
    have c1 : (items.isEmpty || (1 : Int) == 1) = true := by rw [Bool.or_eq_true_iff]; exact .inr rfl
    wp_walk using wpAny_loadPart' hl
    repeat (first
      | (refine wpAny_ite_true (decide_eq_true (by rw [c1])) ?_; wp_walk using wpAny_loadPart' hl))
    all_goals first | exact ⟨_, rfl, h⟩ | skip
section
variable {X : Cx} {e a b : Expr} {σ : L2.St} {F F1 W W1 W2 : Hp} {q : Bool} {pos p : Pos}
theorem op_rep1 : OpR X (binaryOp .Mult) (fun x y H Q => ∃ l xs, x = .ref l ∧ y = .int 1 ∧ SqT X.K H l xs ∧ Q (.ref l) H) := by
  intro pins s σ H x y v u Q I rx ry h
  obtain ⟨l, xs, rfl, rfl, hT, q⟩ := h
  cases rx
  obtain ⟨t, rfl⟩ := ry
  obtain ⟨its, r, ⟨⟨cls, dd, data, sl⟩, ho, hc, n, hd⟩, hs⟩ := I.tuple hT
  simp only at hc hd
  subst hc hd
  exact wpAny_binaryOp_repeat_ref (T := "tuple") (U := "int") (by decide) ⟨_, ho, rfl⟩ (fun s' => typeIs_int s' 1 t) noFill_tuple_mul F.fills_int_mul F.slot_int_rmul repeat_tuple F.slot_int_index.lookup
    (call_meets F.slot_int_rmul (typeIs_int s 1 t) F.entry_int_rmul (F.args_int_rmul_2 _ _) (int_rmul_tuple 1 t l its.toArray n dd sl)
      ⟨ho, rfl, ⟨_, ho, rfl⟩, call_meets F.slot_tuple_mul ⟨_, ho, rfl⟩ F.entry_tuple_mul (F.args_tuple_mul_2 _ _) (tuple_mul1 l its.toArray n dd sl t) ⟨ho, ⟨.ref l, H, I, rfl, q⟩⟩⟩)
theorem ev_repT {α : Type} {f : α → D} {xs : List α} {m : Int} (ha : EvS X a σ F W (eR true f xs) W1) (hb : EvS X b σ F W1 (.int m) W2) (hm : 1 ≤ m) (hk : m ≤ 1000) (hz : xs.length * m.toNat ≤ 100000) (hz2 : xs.length ≤ 1000) (hne : xs ≠ []) : EvS X (.BinOp a .Mult b pos) σ F W (eR true f (List.replicate m.toNat xs).flatten) W2 := by
  by_cases h1 : m = 1
  · subst h1
    have e : (List.replicate (1 : Int).toNat xs).flatten = xs := by simp
    rw [e]
    refine ev_op op_rep1 ha hb fun v1 v2 F1 H1 _ r1 r2 w Q q => ?_
    obtain ⟨l, vs, rfl, h1, s1, z1⟩ := id r1.tup_inv
    cases r2
    exact ⟨l, vs, rfl, rfl, sqo_of (t := true) w h1, q _ F1 H1 (Go.refl w) r1⟩
  · refine ev_op op_repT ha hb fun v1 v2 F1 H1 _ r1 r2 w Q q => ?_
    obtain ⟨l, vs, rfl, h1, s1, z1⟩ := id r1.tup_inv
    cases r2
    have hl := s1.length
    rw [List.length_map] at hl
    refine ⟨l, m, vs, rfl, rfl, sqo_of (t := true) w h1, ?_, by omega, hk, by omega, fun p hp => ?_⟩
    · intro e; rw [e] at hl; exact hne (List.eq_nil_of_length_eq_zero hl.symm)
    · have rr := s1.rep m.toNat
      have e : (List.replicate m.toNat (xs.map f)).flatten = (List.replicate m.toNat xs).flatten.map f := by rw [List.map_flatten, List.map_replicate]
      rw [e] at rr
      exact q _ _ _ (Go.new w hp) (Go.rep_new (t := true) w hp rr (by rw [List.length_map, List.length_flatten, List.map_replicate, List.sum_replicate_nat]; rw [Nat.mul_comm]; exact hz))
end
end Z
set_option Elab.async false
set_option linter.all false
set_option maxRecDepth 100000
set_option maxHeartbeats 1000000
namespace B
open PySem PySem.Spec PyProof.Rows L2 Z
def clsS (s : Stmt) (i : Nat) : Stmt := match s with
  | .ClassDef _ _ _ b _ _ _ _ _ _ _ => b.getD i (.Pass ⟨0, 0, 0, 0⟩)
  | _ => .Pass ⟨0, 0, 0, 0⟩
def topS (i : Nat) : Stmt := PySem.Challenge.pw_storepages_k55_across_blocks.main.body.getD i (.Pass ⟨0, 0, 0, 0⟩)
structure Txt (K : PySem.W.Frag) (mg : Str → Option Value) : Prop where
  isinstance : mg "isinstance" = none
  int : mg "int" = none
  bool : mg "bool" = none
  len : mg "len" = none
  all : mg "all" = none
  any : mg "any" = none
  sum : mg "sum" = none
  sorted : mg "sorted" = none
  set : mg "set" = none
  enumerate : mg "enumerate" = none
  zip : mg "zip" = none
  range : mg "range" = none
  max : mg "max" = none
  min : mg "min" = none
  list : mg "list" = none
  tuple : mg "tuple" = none
  PRIME : ∃ t, mg "PRIME" = some (.int 9973 t)
  MOST_WORDS : ∃ t, mg "MOST_WORDS" = some (.int 40 t)
def Wds (ws : List Int) : Prop := ws.length ≤ 40 ∧ ∀ w ∈ ws, 0 ≤ w ∧ w < 9973
def Pls (many : Int) (ps : List Int) : Prop := 1 ≤ many ∧ many ≤ 40 ∧ (∀ p ∈ ps, 0 ≤ p ∧ p < many + 2) ∧ ps.Nodup ∧ ps.length ≤ 42
section
variable {P : Program} {w : World} {K : PySem.W.Frag} {mg : Str → Option Value} {base : Heap}
abbrev s3 : Stmt := topS 3
theorem sc3 : FnScope ["thing"] ["thing"] (defScope s3) := ⟨rfl, rfl, rfl, by decide +kernel, rfl, by decide +kernel, by decide +kernel⟩
def r_is_integer : List D → D → Prop := fun ds d => ∃ i : Int, ds = [.int i] ∧ d = .bl true
theorem d_is_integer (T : Txt K mg) {f : Addr} {fd : FuncData} (Fu : Fun K "is_integer" "is_integer" s3 f fd) : FnOk P w K mg base CX0 1 f fd ["thing"] (spG (relP r_is_integer)) := by
  refine fn_ok Fu sc3 (fun ds F W d W' h => by obtain ⟨⟨i, rfl, _⟩, _⟩ := h; rfl) (fun cdv A outer s H E hr ds W d W' vs F h hv => ?_)
  obtain ⟨⟨i, rfl, rfl⟩, rfl⟩ := h
  cases hv with | cons h_thing hv => ?_
  cases hv
  exact bl_ret (ev_and (ev_isi (U := "int") (q := true) T.isinstance T.int (ev_var (i := 0) rfl h_thing) rfl (by decide +kernel) (by decide +kernel)) (fun h1 => ev_bop1 (ev_not (ev_isi (U := "bool") (q := false) T.isinstance T.bool (ev_var (i := 0) rfl h_thing) rfl (by decide +kernel) (by decide +kernel))))) ⟨rfl, rfl⟩
abbrev s4 : Stmt := topS 4
theorem sc4 : FnScope ["thing"] ["thing"] (defScope s4) := ⟨rfl, rfl, rfl, by decide +kernel, rfl, by decide +kernel, by decide +kernel⟩
def r_is_row : List D → D → Prop := fun ds d => (∃ (t : Bool) (xs : List D), ds = [.sq t xs] ∧ d = .bl true) ∨ (ds = [.non] ∧ d = .bl false)
theorem d_is_row (T : Txt K mg) {f : Addr} {fd : FuncData} (Fu : Fun K "is_row" "is_row" s4 f fd) : FnOk P w K mg base CX0 1 f fd ["thing"] (spG (relP r_is_row)) := by
  refine fn_ok Fu sc4 (fun ds F W d W' h => by rcases h with ⟨⟨_, _, rfl, _⟩ | ⟨rfl, _⟩, _⟩ <;> rfl) (fun cdv A outer s H E hr ds W d W' vs F h hv => ?_)
  have isi : ∀ {D1 : D} {T1 : String} {q1 q2 : Bool} {v : V}, Rep F v D1 → vs = [v] → D1.ty = some T1 → kitB T1 "list" = some q1 → kitB T1 "tuple" = some q2 → d = .bl (q1 || q2) → W' = W → BlkS (cxOf CX0 P w K mg base ["thing"] "is_row" (defScope s4) f cdv A outer s H E).nox (defBody s4) (start ["thing"] vs) F W { nx := fun _ _ W2 => d = .non ∧ W2 = W', rt := fun d' W2 => d' = d ∧ W2 = W' } := by
    intro D1 T1 q1 q2 v h1 h2 h3 h4 h5 h6 h7
    subst h2 h6 h7
    exact bl_ret (ev_isi2 (U := "list") (U2 := "tuple") T.isinstance T.list T.tuple (ev_var (i := 0) rfl h1) h3 h4 h5 (by decide +kernel) (by decide +kernel)) ⟨rfl, rfl⟩
  obtain ⟨h, rfl⟩ := h
  rcases h with ⟨t, xs, rfl, rfl⟩ | ⟨rfl, rfl⟩
  · cases hv with | cons h_thing hv => ?_
    cases hv
    cases t with
    | false => exact isi (T1 := "list") (q1 := true) (q2 := false) h_thing rfl rfl (by decide +kernel) (by decide +kernel) rfl rfl
    | true => exact isi (T1 := "tuple") (q1 := false) (q2 := true) h_thing rfl rfl (by decide +kernel) (by decide +kernel) rfl rfl
  · cases hv with | cons h_thing hv => ?_
    cases hv
    exact isi (T1 := "NoneType") (q1 := false) (q2 := false) h_thing rfl rfl (by decide +kernel) (by decide +kernel) rfl rfl

theorem wds_all {words : List Int} (h : Wds words) : (!((words.map fun x => (true && (decide (0 ≤ x) && decide (x < 9973)))).all id)) = false := by
  simp only [Bool.not_eq_false', List.all_map, List.all_eq_true]
  intro x hx
  have := h.2 x hx
  simp; omega
def r_check_words : List D → D → Prop := fun ds d => ∃ (t : Bool) (words : (List Int)), (Wds words) ∧ ds = [(eR t D.int) words] ∧ d = .non
abbrev s9 : Stmt := topS 9
abbrev N9 : List Str := ["words", "word"]
theorem sc9 : FnScope N9 ["words"] (defScope s9) := ⟨rfl, rfl, rfl, by decide +kernel, rfl, by decide +kernel, by decide +kernel⟩
theorem d_check_words (T : Txt K mg) (C_is_integer : FnD P w K mg base 1 "is_integer" ["thing"] (relP r_is_integer)) (C_is_row : FnD P w K mg base 1 "is_row" ["thing"] (relP r_is_row)) {f : Addr} {fd : FuncData} (Fu : Fun K "check_words" "check_words" s9 f fd) : FnOk P w K mg base CX0 2 f fd ["words"] (spG (relP r_check_words)) := by
  refine fn_ok Fu sc9 (fun ds F W d W' h => by obtain ⟨⟨_, _, _, rfl, _⟩, _⟩ := h; rfl) (fun cdv A outer s H E hr ds W d W' vs F h hv => ?_)
  have nd_ := sc9.nd
  obtain ⟨⟨t, words, hp_, rfl, rfl⟩, rfl⟩ := h
  cases hv with | @cons v_words _ _ _ h_words hv => ?_
  cases hv
  have hl_words := rep_len h_words
  refine bl_never (q := ((!true) || (decide ((40 : Int) < ((words).length : Int))))) (et_w (ew_or (et_not (et_val (ev_call C_is_row (hr.mono (by decide)) (ea_cons (ev_var (i := 0) rfl h_words) ea_nil) (.inl ⟨_, _, rfl, rfl⟩)))) (fun hb1 => (ew_or1 (et_cm (ev_blt T.len cl_lenR (ea_cons (ev_var (i := 0) rfl h_words) ea_nil) rfl) (ev_gI T.MOST_WORDS) cm_gt))))) (by have := hp_.1; simp; omega) ?_
  refine bl_never (q := (!((((words).map fun x3 => (true && ((decide ((0 : Int) ≤ x3)) && (decide (x3 < (9973 : Int))))))).all id))) (et_not (et_val (ev_blt T.all cl_all (ea_cons (ev_ofLc (lc_M (own := [("word", 1)]) (f := D.int) (g := D.bl) (fun x3 => (true && ((decide ((0 : Int) ≤ x3)) && (decide (x3 < (9973 : Int)))))) (ei_row (ev_var (i := 0) rfl h_words)) (by first | assumption | omega | (simp only [List.length_map, enumT_len, rg_len]; omega) | (simp; done) | (simp; omega)) (fun x3 hx4 v_ F1_ e_ r5 => by
      replace h_words := h_words.mono e_
      intro s_ H0_ C_ cl_ fp_
      cases r5
      refine tg_name (i := 1) ?_
      refine ⟨rfl, fun s_ H0_ C_ cl_ fp_ => ?_, fun ht_ s_ H0_ C_ cl_ fp_ => ?_⟩
      · exact ets_nil
      · exact (ev_and (ev_call C_is_integer (hr.mono (by decide)) (ea_cons (ev_var (i := 1) rfl (.int _)) ea_nil) ⟨_, rfl, rfl⟩) (fun hb6 => (ev_bop1 (ev_ch ev_int (ev_var (i := 1) rfl (.int _)) cm_le (fun _ => (ev_gI T.PRIME)) cm_lt)))))) (ok := blkOk_by (N := N9) (sc := defScope s9) (by decide +kernel))) ea_nil) rfl))) (by exact wds_all hp_) ?_
  exact bl_nil ⟨rfl, rfl⟩
def m_sums_of (words : (List Int)) : (List Int) := ((((enumT words)).foldl (fun (s2 : Int × Int) (x3 : (Int × Int)) => (((s2.1 + (x3).2) % (9973 : Int)), ((s2.2 + (((x3).1 + (1 : Int)) * (x3).2)) % (9973 : Int)))) (((words).length : Int), ((words).length : Int))).1 :: ((((enumT words)).foldl (fun (s2 : Int × Int) (x3 : (Int × Int)) => (((s2.1 + (x3).2) % (9973 : Int)), ((s2.2 + (((x3).1 + (1 : Int)) * (x3).2)) % (9973 : Int)))) (((words).length : Int), ((words).length : Int))).2 :: ([] : List Int)))
def r_sums_of : List D → D → Prop := fun ds d => ∃ (t : Bool) (words : (List Int)), (words.length ≤ 40) ∧ ds = [(eR t D.int) words] ∧ d = (eR true D.int) (m_sums_of words)
abbrev s10 : Stmt := topS 10
abbrev N10 : List Str := ["words", "plain", "heavy", "at", "word"]
theorem sc10 : FnScope N10 ["words"] (defScope s10) := ⟨rfl, rfl, rfl, by decide +kernel, rfl, by decide +kernel, by decide +kernel⟩
theorem d_sums_of (T : Txt K mg)  {f : Addr} {fd : FuncData} (Fu : Fun K "sums_of" "sums_of" s10 f fd) : FnOk P w K mg base CX0 1 f fd ["words"] (spG (relP r_sums_of)) := by
  refine fn_ok Fu sc10 (fun ds F W d W' h => by obtain ⟨⟨_, _, _, rfl, _⟩, _⟩ := h; rfl) (fun cdv A outer s H E hr ds W d W' vs F h hv => ?_)
  have nd_ := sc10.nd
  obtain ⟨⟨t, words, hp_, rfl, rfl⟩, rfl⟩ := h
  cases hv with | @cons v_words _ _ _ h_words hv => ?_
  cases hv
  have hl_words := rep_len h_words
  refine bl_par2 (i := 1) (j := 2) (ea_cons (ev_blt T.len cl_lenR (ea_cons (ev_var (i := 0) rfl h_words) ea_nil) rfl) (ea_cons (ev_blt T.len cl_lenR (ea_cons (ev_var (i := 0) rfl h_words) ea_nil) rfl) ea_nil)) (fun w13 w14 F_ e1 h_plain h_heavy => ?_)
  replace h_words := h_words.mono e1
  cases h_plain
  cases h_heavy
  refine bl_forI (xs := (enumT words)) (f := (eP D.int D.int)) (ei_enumR T.enumerate (ev_var (i := 0) rfl h_words)) (fun (s2 : Int × Int) (x3 : (Int × Int)) => (((s2.1 + (x3).2) % (9973 : Int)), ((s2.2 + (((x3).1 + (1 : Int)) * (x3).2)) % (9973 : Int)))) (((words).length : Int), ((words).length : Int)) (fun i_ (s_ : Int × Int) σ_ F_ W_ => ∃ (o_at : Option V) (o_word : Option V), σ_ = [some v_words, some (.int s_.1), some (.int s_.2), o_at, o_word] ∧ W_ = W') (fun F_ e_ => ?_) (fun i7 x3 hi8 hx5 s2 σ_ F_ W_ e_ J_ v_ F2_ e2_ r6 => ?_) (fun σ_ F_ W_ e_ J_ => ?_)
  · replace h_words := h_words.mono e_
    exact ⟨_, _, rfl, rfl⟩
  · replace h_words := h_words.mono e_
    obtain ⟨o_at, o_word, rfl, rfl⟩ := J_
    replace h_words := h_words.mono e2_
    have hx5m := enumT_mem hx5
    refine tg_tup (ds := [D.int ((x3).1), D.int ((x3).2)]) r6 (fun vs11 rr12 => ?_)
    cases rr12 with | @cons v_at _ _ _ h_at rr12 => ?_
    cases rr12 with | @cons v_word _ _ _ h_word rr12 => ?_
    cases rr12
    refine tgs_cons ?_
    cases h_at
    refine tg_name (i := 3) ?_
    refine tgs_cons ?_
    cases h_word
    refine tg_name (i := 4) ?_
    refine tgs_nil ?_
    refine bl_asgF (i := 1) (ev_mod (ev_bty T.int cl_int (ea_cons (ev_add (ev_var (i := 1) rfl (.int _)) (ev_var (i := 4) rfl (.int _))) ea_nil) rfl) (ev_gI T.PRIME) (by first | decide | omega)) (.int _) ?_
    refine bl_asgF (i := 2) (ev_mod (ev_bty T.int cl_int (ea_cons (ev_add (ev_var (i := 2) rfl (.int _)) (ev_mul (ev_add (ev_var (i := 3) rfl (.int _)) ev_int) (ev_var (i := 4) rfl (.int _)) (by first | exact Or.inl ⟨by omega, by omega⟩ | exact Or.inr ⟨by omega, by omega⟩))) ea_nil) rfl) (ev_gI T.PRIME) (by first | decide | omega)) (.int _) ?_
    exact bl_nil ⟨_, _, rfl, rfl⟩
  · replace h_words := h_words.mono e_
    obtain ⟨o_at, o_word, rfl, rfl⟩ := J_
    exact bl_ret (ev_tupR ((((enumT words)).foldl (fun (s2 : Int × Int) (x3 : (Int × Int)) => (((s2.1 + (x3).2) % (9973 : Int)), ((s2.2 + (((x3).1 + (1 : Int)) * (x3).2)) % (9973 : Int)))) (((words).length : Int), ((words).length : Int))).1 :: ((((enumT words)).foldl (fun (s2 : Int × Int) (x3 : (Int × Int)) => (((s2.1 + (x3).2) % (9973 : Int)), ((s2.2 + (((x3).1 + (1 : Int)) * (x3).2)) % (9973 : Int)))) (((words).length : Int), ((words).length : Int))).2 :: ([] : List Int))) (ea_consR (f := D.int) (x := (((enumT words)).foldl (fun (s2 : Int × Int) (x3 : (Int × Int)) => (((s2.1 + (x3).2) % (9973 : Int)), ((s2.2 + (((x3).1 + (1 : Int)) * (x3).2)) % (9973 : Int)))) (((words).length : Int), ((words).length : Int))).1) (ev_var (i := 1) rfl (.int _)) (ea_consR (f := D.int) (x := (((enumT words)).foldl (fun (s2 : Int × Int) (x3 : (Int × Int)) => (((s2.1 + (x3).2) % (9973 : Int)), ((s2.2 + (((x3).1 + (1 : Int)) * (x3).2)) % (9973 : Int)))) (((words).length : Int), ((words).length : Int))).2) (ev_var (i := 2) rfl (.int _)) (ea_nilR (f := D.int)))) (by simp [rg_len, enumT_len]; try omega)) ⟨rfl, rfl⟩
def m_block_of (words : (List Int)) : (List Int) := (words ++ ((m_sums_of (words)) ++ ([] : List Int)))
def r_block_of : List D → D → Prop := fun ds d => ∃ (t : Bool) (words : (List Int)), (Wds words) ∧ ds = [(eR t D.int) words] ∧ d = (eR true D.int) (m_block_of words)
abbrev s11 : Stmt := topS 11
abbrev N11 : List Str := ["words"]
theorem sc11 : FnScope N11 ["words"] (defScope s11) := ⟨rfl, rfl, rfl, by decide +kernel, rfl, by decide +kernel, by decide +kernel⟩
theorem d_block_of (T : Txt K mg) (C_check_words : FnD P w K mg base 2 "check_words" ["words"] (relP r_check_words)) (C_sums_of : FnD P w K mg base 1 "sums_of" ["words"] (relP r_sums_of)) {f : Addr} {fd : FuncData} (Fu : Fun K "block_of" "block_of" s11 f fd) : FnOk P w K mg base CX0 3 f fd ["words"] (spG (relP r_block_of)) := by
  refine fn_ok Fu sc11 (fun ds F W d W' h => by obtain ⟨⟨_, _, _, rfl, _⟩, _⟩ := h; rfl) (fun cdv A outer s H E hr ds W d W' vs F h hv => ?_)
  have nd_ := sc11.nd
  obtain ⟨⟨t, words, hp_, rfl, rfl⟩, rfl⟩ := h
  cases hv with | @cons v_words _ _ _ h_words hv => ?_
  cases hv
  have hl_words := rep_len h_words
  refine bl_expr (ev_call C_check_words (hr.mono (by decide)) (ea_cons (ev_var (i := 0) rfl h_words) ea_nil) (⟨t, (words), (by first | assumption | exact hp_.1 | omega), rfl, rfl⟩)) ?_
  exact bl_ret (ev_tupR (words ++ ((m_sums_of (words)) ++ ([] : List Int))) (ea_starR (ev_var (i := 0) rfl h_words) (ea_starR (ev_call C_sums_of (hr.mono (by decide)) (ea_cons (ev_var (i := 0) rfl h_words) ea_nil) (⟨t, (words), (by first | assumption | exact hp_.1 | omega), rfl, rfl⟩)) (ea_nilR (f := D.int)))) (by have := hp_.1; simp [m_sums_of]; omega)) ⟨rfl, rfl⟩
def m_words_in (block : (List Int)) : (Option (List Int)) := (if ((!true) || ((decide (((block).length : Int) < (2 : Int))) || (!((((block).map fun x3 => true)).all id)))) = true then none else (if ((decide ((40 : Int) < (((cutL block none (some (-(2 : Int))))).length : Int))) || (!(((((cutL block none (some (-(2 : Int))))).map fun x9 => ((decide ((0 : Int) ≤ x9)) && (decide (x9 < (9973 : Int)))))).all id))) = true then none else (if (decide ((m_sums_of (cutL block none (some (-(2 : Int))))) = (cutL block (some (-(2 : Int))) none))) = true then (some (cutL block none (some (-(2 : Int))))) else none)))
def r_words_in : List D → D → Prop := fun ds d => (ds = [.non] ∧ d = .non) ∨ ∃ (t : Bool) (block : (List Int)), ds = [(eR t D.int) block] ∧ d = (eO (eR true D.int)) (m_words_in block)
abbrev s12 : Stmt := topS 12
abbrev N12 : List Str := ["block", "word", "words"]
theorem sc12 : FnScope N12 ["block"] (defScope s12) := ⟨rfl, rfl, rfl, by decide +kernel, rfl, by decide +kernel, by decide +kernel⟩
theorem d_words_in (T : Txt K mg) (C_is_integer : FnD P w K mg base 1 "is_integer" ["thing"] (relP r_is_integer)) (C_is_row : FnD P w K mg base 1 "is_row" ["thing"] (relP r_is_row)) (C_sums_of : FnD P w K mg base 1 "sums_of" ["words"] (relP r_sums_of)) {f : Addr} {fd : FuncData} (Fu : Fun K "words_in" "words_in" s12 f fd) : FnOk P w K mg base CX0 2 f fd ["block"] (spG (relP r_words_in)) := by
  refine fn_ok Fu sc12 (fun ds F W d W' h => by rcases h with ⟨⟨rfl, _⟩ | ⟨_, _, rfl, _⟩, _⟩ <;> rfl) (fun cdv A outer s H E hr ds W d W' vs F h hv => ?_)
  have nd_ := sc12.nd
  obtain ⟨h, rfl⟩ := h
  rcases h with h | h
  · obtain ⟨rfl, rfl⟩ := h
    cases hv with | cons h_block hv => ?_
    cases hv
    exact bl_when (q := (!false) || true) (et_w (ew_or (q1 := !false) (q2 := true) (et_not (q := false) (et_val (ev_call C_is_row (hr.mono (by decide)) (ea_cons (ev_var (i := 0) rfl h_block) ea_nil) (.inr ⟨rfl, rfl⟩)))) (fun h => absurd h (by decide)))) (fun _ => bl_ret ev_non ⟨rfl, rfl⟩) (fun h => absurd h (by decide))
  obtain ⟨t, block, rfl, rfl⟩ := h
  cases hv with | @cons v_block _ _ _ h_block hv => ?_
  cases hv
  have hl_block := rep_len h_block
  refine bl_whenR (q := ((!true) || ((decide (((block).length : Int) < (2 : Int))) || (!((((block).map fun x3 => true)).all id))))) (f := (eO (eR true D.int))) (x := none) (y := (if ((decide ((40 : Int) < (((cutL block none (some (-(2 : Int))))).length : Int))) || (!(((((cutL block none (some (-(2 : Int))))).map fun x9 => ((decide ((0 : Int) ≤ x9)) && (decide (x9 < (9973 : Int)))))).all id))) = true then none else (if (decide ((m_sums_of (cutL block none (some (-(2 : Int))))) = (cutL block (some (-(2 : Int))) none))) = true then (some (cutL block none (some (-(2 : Int))))) else none))) (et_w (ew_or (et_not (et_val (ev_call C_is_row (hr.mono (by decide)) (ea_cons (ev_var (i := 0) rfl h_block) ea_nil) (.inl ⟨_, _, rfl, rfl⟩)))) (fun hb1 => (ew_or (et_cm (ev_blt T.len cl_lenR (ea_cons (ev_var (i := 0) rfl h_block) ea_nil) rfl) ev_int cm_lt) (fun hb2 => (ew_or1 (et_not (et_val (ev_blt T.all cl_all (ea_cons (ev_ofLc (lc_M (own := [("word", 1)]) (f := D.int) (g := D.bl) (fun x3 => true) (ei_row (ev_var (i := 0) rfl h_block)) (by first | assumption | omega | (simp only [List.length_map, enumT_len, rg_len]; omega) | (simp; done) | (simp; omega)) (fun x3 hx4 v_ F1_ e_ r5 => by
      replace h_block := h_block.mono e_
      intro s_ H0_ C_ cl_ fp_
      cases r5
      refine tg_name (i := 1) ?_
      refine ⟨rfl, fun s_ H0_ C_ cl_ fp_ => ?_, fun ht_ s_ H0_ C_ cl_ fp_ => ?_⟩
      · exact ets_nil
      · exact (ev_call C_is_integer (hr.mono (by decide)) (ea_cons (ev_var (i := 1) rfl (.int _)) ea_nil) ⟨_, rfl, rfl⟩))) (ok := blkOk_by (N := N12) (sc := defScope s12) (by decide +kernel))) ea_nil) rfl))))))))) (fun hq6 => ?_) (fun hq6 => ?_)
  · exact bl_ret (ev_is (d1 := (eO (eR true D.int)) none) ev_non rfl) ⟨rfl, rfl⟩
  · refine bl_asg (i := 2) (ev_bty T.tuple cl_tupleR (ea_cons (ev_sl (l := none) (u := (some (-(2 : Int)))) (ev_var (i := 0) rfl h_block) eo_none (eo_some (ev_neg ev_int))) ea_nil) rfl) (fun v_words F_ e7 h_words => ?_)
    have hl_words := rep_len h_words
    replace h_block := h_block.mono e7
    refine bl_whenR (q := ((decide ((40 : Int) < (((cutL block none (some (-(2 : Int))))).length : Int))) || (!(((((cutL block none (some (-(2 : Int))))).map fun x9 => ((decide ((0 : Int) ≤ x9)) && (decide (x9 < (9973 : Int)))))).all id)))) (f := (eO (eR true D.int))) (x := none) (y := (if (decide ((m_sums_of (cutL block none (some (-(2 : Int))))) = (cutL block (some (-(2 : Int))) none))) = true then (some (cutL block none (some (-(2 : Int))))) else none)) (et_w (ew_or (et_cm (ev_blt T.len cl_lenR (ea_cons (ev_var (i := 2) rfl h_words) ea_nil) rfl) (ev_gI T.MOST_WORDS) cm_gt) (fun hb8 => (ew_or1 (et_not (et_val (ev_blt T.all cl_all (ea_cons (ev_ofLc (lc_M (own := [("word", 1)]) (f := D.int) (g := D.bl) (fun x9 => ((decide ((0 : Int) ≤ x9)) && (decide (x9 < (9973 : Int))))) (ei_row (ev_var (i := 2) rfl h_words)) (by first | assumption | omega | (simp only [List.length_map, enumT_len, rg_len]; omega) | (simp; done) | (simp; omega)) (fun x9 hx10 v_ F1_ e_ r11 => by
      replace h_block := h_block.mono e_
      replace h_words := h_words.mono e_
      intro s_ H0_ C_ cl_ fp_
      cases r11
      refine tg_name (i := 1) ?_
      refine ⟨rfl, fun s_ H0_ C_ cl_ fp_ => ?_, fun ht_ s_ H0_ C_ cl_ fp_ => ?_⟩
      · exact ets_nil
      · exact (ev_ch ev_int (ev_var (i := 1) rfl (.int _)) cm_le (fun _ => (ev_gI T.PRIME)) cm_lt))) (ok := blkOk_by (N := N12) (sc := defScope s12) (by decide +kernel))) ea_nil) rfl))))))) (fun hq12 => ?_) (fun hq12 => ?_)
    · exact bl_ret (ev_is (d1 := (eO (eR true D.int)) none) ev_non rfl) ⟨rfl, rfl⟩
    · exact bl_ret (ev_if (f := (eO (eR true D.int))) (x := (some (cutL block none (some (-(2 : Int)))))) (y := none) (et_cm (ev_call C_sums_of (hr.mono (by decide)) (ea_cons (ev_var (i := 2) rfl h_words) ea_nil) (⟨true, (cutL block none (some (-(2 : Int)))), (by simp only [Bool.or_eq_false_iff, decide_eq_false_iff_not] at hq12; have := hq12.1; omega), rfl, rfl⟩)) (ev_bty T.tuple cl_tupleR (ea_cons (ev_sl (l := (some (-(2 : Int)))) (u := none) (ev_var (i := 0) rfl h_block) (eo_some (ev_neg ev_int)) eo_none) ea_nil) rfl) (cm_eq (f := (eR true D.int)) (x := (m_sums_of (cutL block none (some (-(2 : Int)))))) (y := (cutL block (some (-(2 : Int))) none)) hr (Lw.row lw_int))) (fun hi13 => (ev_is (d1 := (eO (eR true D.int)) (some (cutL block none (some (-(2 : Int)))))) (ev_var (i := 2) rfl h_words) rfl)) (fun hi14 => (ev_is (d1 := (eO (eR true D.int)) none) ev_non rfl))) ⟨rfl, rfl⟩
theorem pls_all {many : Int} {places : List Int} (h : ∀ p ∈ places, 0 ≤ p ∧ p < many + 2) : (places.map fun x => (true && (decide (0 ≤ x) && decide (x < many + 2)))).all id = true := by
  simp only [List.all_map, List.all_eq_true]
  intro x hx
  have := h x hx
  simp; omega
def r_check_places : List D → D → Prop := fun ds d => ∃ (t : Bool) (many : Int) (places : (List Int)), (Pls many places) ∧ ds = [D.int many, (eR t D.int) places] ∧ d = .non
abbrev s15 : Stmt := topS 15
abbrev N15 : List Str := ["many", "places", "place"]
theorem sc15 : FnScope N15 ["many", "places"] (defScope s15) := ⟨rfl, rfl, rfl, by decide +kernel, rfl, by decide +kernel, by decide +kernel⟩
theorem d_check_places (T : Txt K mg) (C_is_integer : FnD P w K mg base 1 "is_integer" ["thing"] (relP r_is_integer)) (C_is_row : FnD P w K mg base 1 "is_row" ["thing"] (relP r_is_row)) {f : Addr} {fd : FuncData} (Fu : Fun K "check_places" "check_places" s15 f fd) : FnOk P w K mg base CX0 2 f fd ["many", "places"] (spG (relP r_check_places)) := by
  refine fn_ok Fu sc15 (fun ds F W d W' h => by obtain ⟨⟨_, _, _, _, rfl, _⟩, _⟩ := h; rfl) (fun cdv A outer s H E hr ds W d W' vs F h hv => ?_)
  have nd_ := sc15.nd
  obtain ⟨⟨t, many, places, hp_, rfl, rfl⟩, rfl⟩ := h
  cases hv with | @cons v_many _ _ _ h_many hv => ?_
  cases hv with | @cons v_places _ _ _ h_places hv => ?_
  cases hv
  cases h_many
  have hl_places := rep_len h_places
  obtain ⟨hp1, hp2, hp3, hp4, hp5⟩ := hp_
  refine bl_never (q := ((!true) || ((!((decide ((1 : Int) ≤ many)) && (decide (many ≤ (40 : Int))))) || (!true)))) (et_w (ew_or (et_not (et_val (ev_call C_is_integer (hr.mono (by decide)) (ea_cons (ev_var (i := 0) rfl (.int _)) ea_nil) ⟨_, rfl, rfl⟩))) (fun hb1 => (ew_or (et_not (et_ch ev_int (ev_var (i := 0) rfl (.int _)) cm_le (fun _ => (ev_gI T.MOST_WORDS)) cm_le)) (fun hb2 => (ew_or1 (et_not (et_val (ev_call C_is_row (hr.mono (by decide)) (ea_cons (ev_var (i := 1) rfl h_places) ea_nil) (.inl ⟨_, _, rfl, rfl⟩)))))))))) (by first | assumption | (simp; done) | (simp; omega)) ?_
  refine bl_never (q := ((!((((places).map fun x4 => (true && ((decide ((0 : Int) ≤ x4)) && (decide (x4 < (many + (2 : Int)))))))).all id)) || (decide (((places).length : Int) < ((places).length : Int))))) (et_w (ew_or (et_not (et_val (ev_blt T.all cl_all (ea_cons (ev_ofLc (lc_M (own := [("place", 2)]) (f := D.int) (g := D.bl) (fun x4 => (true && ((decide ((0 : Int) ≤ x4)) && (decide (x4 < (many + (2 : Int))))))) (ei_row (ev_var (i := 1) rfl h_places)) (by first | assumption | omega | (simp only [List.length_map, enumT_len, rg_len]; omega) | (simp; done) | (simp; omega)) (fun x4 hx5 v_ F1_ e_ r6 => by
      replace h_places := h_places.mono e_
      intro s_ H0_ C_ cl_ fp_
      cases r6
      refine tg_name (i := 2) ?_
      refine ⟨rfl, fun s_ H0_ C_ cl_ fp_ => ?_, fun ht_ s_ H0_ C_ cl_ fp_ => ?_⟩
      · exact ets_nil
      · exact (ev_and (ev_call C_is_integer (hr.mono (by decide)) (ea_cons (ev_var (i := 2) rfl (.int _)) ea_nil) ⟨_, rfl, rfl⟩) (fun hb7 => (ev_bop1 (ev_ch ev_int (ev_var (i := 2) rfl (.int _)) cm_le (fun _ => (ev_add (ev_var (i := 0) rfl (.int _)) ev_int)) cm_lt)))))) (ok := blkOk_by (N := N15) (sc := defScope s15) (by decide +kernel))) ea_nil) rfl))) (fun hb8 => (ew_or1 (et_cm (ev_lenset T.len T.set (ev_var (i := 1) rfl h_places) (by assumption) (by omega)) (ev_blt T.len cl_lenR (ea_cons (ev_var (i := 1) rfl h_places) ea_nil) rfl) cm_lt))))) (by rw [pls_all hp3]; simp) ?_
  exact bl_nil ⟨rfl, rfl⟩
def m_rows_of_changes (many : Int) : (List (List Int)) := (if (decide (many = (0 : Int))) = true then (([] : List Int) :: ([] : List (List Int))) else (((rg (1 : Int) (12 : Int))).foldl (fun (s3 : (List (List Int))) (x4 : Int) => ((((rg (1 : Int) (if (decide ((1 : Int) < many)) = true then (4 : Int) else (2 : Int)))).foldl (fun (s12 : (List (List Int))) (x13 : Int) => ((s12 ++ [(cutL (x4 :: (x13 :: ((((rg 0 (many - (2 : Int)))).map fun x19 => (1 : Int)) ++ ([] : List Int)))) none (some many))]))) (s3)))) (([] : List (List Int)))))
def r_rows_of_changes : List D → D → Prop := fun ds d => ∃ (many : Int), (-100 ≤ many ∧ many ≤ 100) ∧ ds = [D.int many] ∧ d = (eR false (eR true D.int)) (m_rows_of_changes many)
abbrev s18 : Stmt := topS 18
abbrev N18 : List Str := ["many", "found", "first", "second", "turn"]
theorem sc18 : FnScope N18 ["many"] (defScope s18) := ⟨rfl, rfl, rfl, by decide +kernel, rfl, by decide +kernel, by decide +kernel⟩
theorem d_rows_of_changes (T : Txt K mg)  {f : Addr} {fd : FuncData} (Fu : Fun K "rows_of_changes" "rows_of_changes" s18 f fd) : FnOk P w K mg base CX0 1 f fd ["many"] (spG (relP r_rows_of_changes)) := by
  refine fn_ok Fu sc18 (fun ds F W d W' h => by obtain ⟨⟨_, _, rfl, _⟩, _⟩ := h; rfl) (fun cdv A outer s H E hr ds W d W' vs F h hv => ?_)
  have nd_ := sc18.nd
  obtain ⟨⟨many, hp_, rfl, rfl⟩, rfl⟩ := h
  cases hv with | @cons v_many _ _ _ h_many hv => ?_
  cases hv
  cases h_many
  refine bl_whenR (q := (decide (many = (0 : Int)))) (f := (eR false (eR true D.int))) (x := (([] : List Int) :: ([] : List (List Int)))) (y := (((rg (1 : Int) (12 : Int))).foldl (fun (s3 : (List (List Int))) (x4 : Int) => ((((rg (1 : Int) (if (decide ((1 : Int) < many)) = true then (4 : Int) else (2 : Int)))).foldl (fun (s12 : (List (List Int))) (x13 : Int) => ((s12 ++ [(cutL (x4 :: (x13 :: ((((rg 0 (many - (2 : Int)))).map fun x19 => (1 : Int)) ++ ([] : List Int)))) none (some many))]))) (s3)))) (([] : List (List Int))))) (et_cm (ev_var (i := 0) rfl (.int _)) ev_int (cm_eq (f := D.int) (x := many) (y := (0 : Int)) hr lw_int)) (fun hq1 => ?_) (fun hq1 => ?_)
  · exact bl_ret (ev_lstR (([] : List Int) :: ([] : List (List Int))) (ea_consR (f := (eR true D.int)) (x := ([] : List Int)) (ev_tupR ([] : List Int) (ea_nilR (f := D.int)) (by simp [rg_len, enumT_len]; try omega)) (ea_nilR (f := (eR true D.int)))) (by simp [rg_len, enumT_len]; try omega)) ⟨rfl, rfl⟩
  · refine bl_asgN (i := 1) (en_lst ea_nil (by simp)) (fun l_found vs_found F_ e2 h_found wn_found => ?_)
    replace h_found : Reps F_ vs_found ((([] : List (List Int))).map (eR true D.int)) := h_found
    refine bl_forI (xs := (rg (1 : Int) (12 : Int))) (f := D.int) (ei_range2 T.range (ea_cons ev_int (ea_cons ev_int ea_nil)) (by omega)) (fun (s3 : (List (List Int))) (x4 : Int) => ((((rg (1 : Int) (if (decide ((1 : Int) < many)) = true then (4 : Int) else (2 : Int)))).foldl (fun (s12 : (List (List Int))) (x13 : Int) => ((s12 ++ [(cutL (x4 :: (x13 :: ((((rg 0 (many - (2 : Int)))).map fun x19 => (1 : Int)) ++ ([] : List Int)))) none (some many))]))) (s3)))) (([] : List (List Int))) (fun i_ (s_ : (List (List Int))) σ_ F_ W_ => ∃ (o_first : Option V) (o_second : Option V) (vs_found : List V), σ_ = [some (.int many), some (.ref l_found), o_first, o_second, none] ∧ Reps F_ vs_found ((s_).map (eR true D.int)) ∧ (s_.length ≤ 3 * i_) ∧ W_ = (upd W' l_found (.lst vs_found))) (fun F_ e_ => ?_) (fun i8 x4 hi9 hx6 s3 σ_ F_ W_ e_ J_ v_ F2_ e2_ r7 => ?_) (fun σ_ F_ W_ e_ J_ => ?_)
    · replace h_found := h_found.mono e_
      exact ⟨_, _, _, rfl, h_found, (by first | omega | (simp; done)), rfl⟩
    · replace h_found := h_found.mono e_
      obtain ⟨o_first, o_second, vs_found, rfl, h_found, inv5, rfl⟩ := J_
      replace h_found := h_found.mono e2_
      have hx6m := rg_mem.mp hx6
      cases r7
      refine tg_name (i := 2) ?_
      refine bl_forI (xs := (rg (1 : Int) (if (decide ((1 : Int) < many)) = true then (4 : Int) else (2 : Int)))) (f := D.int) (ei_range2 T.range (ea_cons ev_int (ea_cons (ev_if (f := D.int) (x := (4 : Int)) (y := (2 : Int)) (et_cm (ev_var (i := 0) rfl (.int _)) ev_int cm_gt) (fun hi10 => ev_int) (fun hi11 => ev_int)) ea_nil)) (by omega)) (fun (s12 : (List (List Int))) (x13 : Int) => ((s12 ++ [(cutL (x4 :: (x13 :: ((((rg 0 (many - (2 : Int)))).map fun x19 => (1 : Int)) ++ ([] : List Int)))) none (some many))]))) (s3) (fun i_ (s_ : (List (List Int))) σ_ F_ W_ => ∃ (o_second : Option V) (vs_found : List V), σ_ = [some (.int many), some (.ref l_found), some (.int x4), o_second, none] ∧ Reps F_ vs_found ((s_).map (eR true D.int)) ∧ (s_.length ≤ ((s3)).length + i_) ∧ W_ = (upd W' l_found (.lst vs_found))) (fun F_ e_ => ?_) (fun i17 x13 hi18 hx15 s12 σ_ F_ W_ e_ J_ v_ F2_ e2_ r16 => ?_) (fun σ_ F_ W_ e_ J_ => ?_)
      · replace h_found := h_found.mono e_
        exact ⟨_, _, rfl, h_found, (by first | omega | (simp; done)), rfl⟩
      · replace h_found := h_found.mono e_
        obtain ⟨o_second, vs_found, rfl, h_found, inv14, rfl⟩ := J_
        replace h_found := h_found.mono e2_
        have hx15m := rg_mem.mp hx15
        cases r16
        refine tg_name (i := 3) ?_
        refine bl_app (ev_var (i := 1) rfl (.ow _)) (ev_sl (l := none) (u := (some many)) (ev_tupR (x4 :: (x13 :: ((((rg 0 (many - (2 : Int)))).map fun x19 => (1 : Int)) ++ ([] : List Int)))) (ea_consR (f := D.int) (x := x4) (ev_var (i := 2) rfl (.int _)) (ea_consR (f := D.int) (x := x13) (ev_var (i := 3) rfl (.int _)) (ea_starR (ev_ofLc (lc_M (own := [("turn", 4)]) (f := D.int) (g := D.int) (fun x19 => (1 : Int)) (ei_range1 T.range (ea_cons (ev_sub (ev_var (i := 0) rfl (.int _)) ev_int) ea_nil) (by omega) (by omega)) (by first | assumption | omega | (simp only [List.length_map, enumT_len, rg_len]; omega) | (simp; done) | (simp; omega)) (fun x19 hx20 v_ F1_ e_ r21 => by
      replace h_found := h_found.mono e_
      have hx20m := rg_mem.mp hx20
      intro s_ H0_ C_ cl_ fp_
      cases r21
      refine tg_name (i := 4) ?_
      refine ⟨rfl, fun s_ H0_ C_ cl_ fp_ => ?_, fun ht_ s_ H0_ C_ cl_ fp_ => ?_⟩
      · exact ets_nil
      · exact ev_int)) (ok := blkOk_by (N := N18) (sc := defScope s18) (by decide +kernel))) (ea_nilR (f := D.int))))) (by simp [rg_len, enumT_len]; try omega)) eo_none (eo_some (ev_var (i := 0) rfl (.int _)))) upd_same (by rw [h_found.length, List.length_map]; simp only [rg_len] at *; split at hi18 <;> omega) upd_same (fun v22 F_ e23 hv_ => ?_)
        replace h_found := h_found.mono e23
        replace h_found := h_found.snoc hv_
        rw [show ∀ (l : List (List Int)) (y : (List Int)), l.map (eR true D.int) ++ [(eR true D.int) y] = (l ++ [y]).map (eR true D.int) from fun l y => by rw [List.map_append]; rfl] at h_found
        rw [upd_upd]
        exact bl_nil ⟨_, _, rfl, h_found, (by simp only [List.length_append, List.length_cons, List.length_nil]; omega), rfl⟩
      · replace h_found := h_found.mono e_
        obtain ⟨o_second, vs_found, rfl, h_found, inv14, rfl⟩ := J_
        exact bl_nil ⟨_, _, _, rfl, h_found, (by have hl2 : ∀ b : Bool, (rg 1 (if b = true then 4 else 2)).length ≤ 3 := (by intro b; cases b <;> decide); have hl3 := hl2 (decide ((1 : Int) < many)); omega), rfl⟩
    · replace h_found := h_found.mono e_
      obtain ⟨o_first, o_second, vs_found, rfl, h_found, inv5, rfl⟩ := J_
      refine bl_freeze (ds := ((((rg (1 : Int) (12 : Int))).foldl (fun (s3 : (List (List Int))) (x4 : Int) => ((((rg (1 : Int) (if (decide ((1 : Int) < many)) = true then (4 : Int) else (2 : Int)))).foldl (fun (s12 : (List (List Int))) (x13 : Int) => ((s12 ++ [(cutL (x4 :: (x13 :: ((((rg 0 (many - (2 : Int)))).map fun x19 => (1 : Int)) ++ ([] : List Int)))) none (some many))]))) (s3)))) (([] : List (List Int))))).map (eR true D.int)) upd_same h_found (by rw [List.length_map]; simp only [rg_len] at inv5; omega) (fun F_ e24 hf_found => ?_)
      rw [del_upd wn_found]
      replace h_found : Rep F_ (.ref l_found) (eR false (eR true D.int) ((((rg (1 : Int) (12 : Int))).foldl (fun (s3 : (List (List Int))) (x4 : Int) => ((((rg (1 : Int) (if (decide ((1 : Int) < many)) = true then (4 : Int) else (2 : Int)))).foldl (fun (s12 : (List (List Int))) (x13 : Int) => ((s12 ++ [(cutL (x4 :: (x13 :: ((((rg 0 (many - (2 : Int)))).map fun x19 => (1 : Int)) ++ ([] : List Int)))) none (some many))]))) (s3)))) (([] : List (List Int)))))) := hf_found
      exact bl_ret (ev_var (i := 1) rfl h_found) ⟨rfl, rfl⟩
def invL : Nat → Int → Int → Int → Int
  | 0, found, _, _ => found
  | n + 1, found, base, rest => if 0 < rest then invL n (if rest % 2 = 1 then found * base % 9973 else found) (base * base % 9973) (rest / 2) else found
def m_inverse (number : Int) : Int := invL 14 1 (number % 9973) 9971
theorem invL_zero (m : Nat) (found base : Int) : invL m found base 0 = found := by cases m <;> rfl
theorem invL_in : ∀ (m : Nat) (found base rest : Int), 0 ≤ found ∧ found < 9973 → 0 ≤ invL m found base rest ∧ invL m found base rest < 9973
  | 0, found, _, _, h => h
  | n + 1, found, base, rest, h => by
    unfold invL
    split
    · refine invL_in n _ _ _ ?_
      split <;> omega
    · exact h
theorem inverse_in (n : Int) : 0 ≤ m_inverse n ∧ m_inverse n < 9973 := invL_in _ _ _ _ (by decide)
def r_inverse : List D → D → Prop := fun ds d => ∃ (number : Int), ds = [D.int number] ∧ d = D.int (m_inverse number)
abbrev s20 : Stmt := topS 20
abbrev N20 : List Str := ["number", "found", "base", "rest"]
theorem sc20 : FnScope N20 ["number"] (defScope s20) := ⟨rfl, rfl, rfl, by decide +kernel, rfl, by decide +kernel, by decide +kernel⟩
theorem d_inverse (T : Txt K mg)  {f : Addr} {fd : FuncData} (Fu : Fun K "inverse" "inverse" s20 f fd) : FnOk P w K mg base CX0 1 f fd ["number"] (spG (relP r_inverse)) := by
  refine fn_ok Fu sc20 (fun ds F W d W' h => by obtain ⟨⟨_, rfl, _⟩, _⟩ := h; rfl) (fun cdv A outer s H E hr ds W d W' vs F h hv => ?_)
  have nd_ := sc20.nd
  obtain ⟨⟨number, rfl, rfl⟩, rfl⟩ := h
  cases hv with | @cons v_number _ _ _ h_number hv => ?_
  cases hv
  cases h_number
  refine bl_par3 (i := 1) (j := 2) (l := 3) (ea_cons ev_int (ea_cons (ev_mod (ev_bty T.int cl_int (ea_cons (ev_var (i := 0) rfl (.int _)) ea_nil) rfl) (ev_gI T.PRIME) (by decide)) (ea_cons (ev_sub (ev_gI T.PRIME) ev_int) ea_nil))) (fun v1 v2 v3 F_ e h1 h2 h3 => ?_)
  cases h1; cases h2; cases h3
  refine bl_while (fun m σ_ F_ W_ => ∃ found base rest : Int, σ_ = [some (.int number), some (.int found), some (.int base), some (.int rest)] ∧ ((0 ≤ found ∧ found < 9973) ∧ (0 ≤ base ∧ base < 9973) ∧ 0 ≤ rest ∧ rest < 2 ^ m) ∧ invL m found base rest = m_inverse number ∧ W_ = W') 14 ⟨1, number % 9973, 9973 - 2, rfl, ⟨by decide, by omega, by decide, by decide⟩, rfl, rfl⟩ (fun m σ_ F_ W_ e_ J_ => ?_)
  obtain ⟨found, base, rest, rfl, ⟨hf, hb, h0, hm⟩, hl, rfl⟩ := J_
  refine ⟨decide (0 < rest), _, et_cm (ev_var (i := 3) rfl (.int _)) ev_int cm_gt, fun hq => ?_, fun hq => ?_⟩
  · have hr0 : 0 < rest := of_decide_eq_true hq
    obtain ⟨m', rfl⟩ : ∃ m', m = m' + 1 := by
      cases m with
      | zero => simp at hm; omega
      | succ m' => exact ⟨m', rfl⟩
    rw [invL, if_pos hr0] at hl
    have hm2 : rest / 2 < 2 ^ m' := by rw [Int.pow_succ] at hm; omega
    refine bl_when (q := decide (rest % 2 = 1)) (et_cm (ev_mod (ev_var (i := 3) rfl (.int _)) ev_int (by decide)) ev_int (cm_eq (f := D.int) hr lw_int)) (fun hq2 => ?_) (fun hq2 => ?_)
    · have hq2 := of_decide_eq_true hq2
      rw [if_pos hq2] at hl
      refine bl_asgF (i := 1) (ev_mod (ev_bty T.int cl_int (ea_cons (ev_mul (ev_var (i := 1) rfl (.int _)) (ev_var (i := 2) rfl (.int _)) (.inl ⟨by omega, by omega⟩)) ea_nil) rfl) (ev_gI T.PRIME) (by decide)) (.int _) ?_
      refine bl_nil ?_
      refine bl_par2 (i := 2) (j := 3) (ea_cons (ev_mod (ev_bty T.int cl_int (ea_cons (ev_mul (ev_var (i := 2) rfl (.int _)) (ev_var (i := 2) rfl (.int _)) (.inl ⟨by omega, by omega⟩)) ea_nil) rfl) (ev_gI T.PRIME) (by decide)) (ea_cons (ev_div (ev_var (i := 3) rfl (.int _)) ev_int ⟨by decide, by decide⟩) ea_nil)) (fun v1 v2 F_ e h1 h2 => ?_)
      cases h1; cases h2
      exact bl_nil ⟨m', Nat.lt_succ_self _, _, _, _, rfl, ⟨by omega, by omega, by omega, hm2⟩, hl, rfl⟩
    · have hq2 := of_decide_eq_false hq2
      rw [if_neg hq2] at hl
      refine bl_par2 (i := 2) (j := 3) (ea_cons (ev_mod (ev_bty T.int cl_int (ea_cons (ev_mul (ev_var (i := 2) rfl (.int _)) (ev_var (i := 2) rfl (.int _)) (.inl ⟨by omega, by omega⟩)) ea_nil) rfl) (ev_gI T.PRIME) (by decide)) (ea_cons (ev_div (ev_var (i := 3) rfl (.int _)) ev_int ⟨by decide, by decide⟩) ea_nil)) (fun v1 v2 F_ e h1 h2 => ?_)
      cases h1; cases h2
      exact bl_nil ⟨m', Nat.lt_succ_self _, _, _, _, rfl, ⟨by omega, by omega, by omega, hm2⟩, hl, rfl⟩
  · have hr0 : rest = 0 := by have := of_decide_eq_false hq; omega
    subst hr0
    rw [invL_zero] at hl
    exact bl_ret (ev_var (i := 1) rfl (.int _)) ⟨by rw [← hl], rfl⟩
def Clo (inner front : List Int) (free : List Bool) : Prop := (∀ p ∈ inner, 0 ≤ p ∧ p < 100) ∧ inner.length ≤ 100 ∧ front.length ≤ 1000 ∧ free.length = 2
theorem cutL_mem {α : Type} {xs : List α} {a b : Option Int} {x : α} (h : x ∈ cutL xs a b) : x ∈ xs := List.mem_of_mem_drop (List.mem_of_mem_take h)
theorem atI_mem {α : Type} {xs : List α} {i : Int} {x : α} (h : atI xs i = some x) : x ∈ xs := by
  unfold atI at h
  cases hh : ixN xs.length i with
  | none => rw [hh] at h; simp at h
  | some j => rw [hh] at h; exact List.mem_of_getElem? h
theorem last_in {inner : List Int} (h : ∀ p ∈ inner, 0 ≤ p ∧ p < 100) (a b : Option Int) (i : Int) : 0 ≤ ixI 0 ((cutL inner a b).map fun x => x + 1) i ∧ ixI 0 ((cutL inner a b).map fun x => x + 1) i ≤ 100 := by
  unfold ixI
  cases e : atI ((cutL inner a b).map fun x => x + 1) i with
  | none => exact ⟨Int.le_refl 0, by decide⟩
  | some y =>
    obtain ⟨x, hx, rfl⟩ := List.mem_map.mp (atI_mem e)
    have := h x (cutL_mem hx)
    show 0 ≤ x + 1 ∧ x + 1 ≤ 100
    omega
theorem foldl_all {α S : Type} (P : S → Prop) (f : S → α → S) : ∀ (xs : List α) (s : S), P s → (∀ s x, P s → P (f s x)) → P (xs.foldl f s)
  | [], _, h, _ => h
  | x :: xs, s, h, hf => foldl_all P f xs (f s x) (hf s x h) hf
theorem rows_len {many : Int} (hm : many ≤ 100) : ∀ r ∈ m_rows_of_changes many, r.length ≤ 1000 := by
  unfold m_rows_of_changes
  split
  · intro r hr
    simp at hr; subst hr; decide
  · refine foldl_all (fun s : List (List Int) => ∀ r ∈ s, r.length ≤ 1000) _ _ _ (fun r hr => by simp at hr) fun s x hs => ?_
    refine foldl_all (fun s : List (List Int) => ∀ r ∈ s, r.length ≤ 1000) _ _ _ hs fun s y hs => ?_
    intro r hr
    rcases List.mem_append.mp hr with h | h
    · exact hs r h
    · rw [List.mem_singleton.mp h]
      refine Nat.le_trans (cutL_len _ _ _) ?_
      simp [rg_len]; omega
def m_closed_row (inner : (List Int)) (front : (List Int)) (free : (List Bool)) : (List Int) := (if (decide ((((cutL inner (some ((front).length : Int)) none)).map fun x8 => (x8 + (1 : Int))) = ([] : List Int))) = true then front else (if (decide ((((((cutL inner (some ((front).length : Int)) none)).map fun x8 => (x8 + (1 : Int)))).length : Int) = (1 : Int))) = true then (front ++ ((if (ixI false free (1 : Int)) = true then (-(front).sum) else ((-(((((inner).zip front)).map fun x1 => (((x1).1 + (1 : Int)) * (x1).2))).sum) * (m_inverse (ixI 0 (((cutL inner (some ((front).length : Int)) none)).map fun x8 => (x8 + (1 : Int))) (0 : Int))))) :: ([] : List Int))) else (front ++ (((-(front).sum) - ((((-(((((inner).zip front)).map fun x1 => (((x1).1 + (1 : Int)) * (x1).2))).sum) - ((-(front).sum) * (ixI 0 (((cutL inner (some ((front).length : Int)) none)).map fun x8 => (x8 + (1 : Int))) (0 : Int)))) * (m_inverse ((ixI 0 (((cutL inner (some ((front).length : Int)) none)).map fun x8 => (x8 + (1 : Int))) (1 : Int)) - (ixI 0 (((cutL inner (some ((front).length : Int)) none)).map fun x8 => (x8 + (1 : Int))) (0 : Int))))) % (9973 : Int))) :: (((((-(((((inner).zip front)).map fun x1 => (((x1).1 + (1 : Int)) * (x1).2))).sum) - ((-(front).sum) * (ixI 0 (((cutL inner (some ((front).length : Int)) none)).map fun x8 => (x8 + (1 : Int))) (0 : Int)))) * (m_inverse ((ixI 0 (((cutL inner (some ((front).length : Int)) none)).map fun x8 => (x8 + (1 : Int))) (1 : Int)) - (ixI 0 (((cutL inner (some ((front).length : Int)) none)).map fun x8 => (x8 + (1 : Int))) (0 : Int))))) % (9973 : Int)) :: ([] : List Int))))))
def r_closed_row : List D → D → Prop := fun ds d => ∃ (inner : (List Int)) (front : (List Int)) (free : (List Bool)), (Clo inner front free) ∧ ds = [(eR false D.int) inner, (eR true D.int) front, (eR false D.bl) free] ∧ d = (eR false D.int) (m_closed_row inner front free)
abbrev s19 : Stmt := topS 19
abbrev N19 : List Str := ["inner", "front", "free", "plain", "heavy", "place", "one", "last", "step"]
theorem sc19 : FnScope N19 ["inner", "front", "free"] (defScope s19) := ⟨rfl, rfl, rfl, by decide +kernel, rfl, by decide +kernel, by decide +kernel⟩
theorem d_closed_row (T : Txt K mg) (C_inverse : FnD P w K mg base 1 "inverse" ["number"] (relP r_inverse)) {f : Addr} {fd : FuncData} (Fu : Fun K "closed_row" "closed_row" s19 f fd) : FnOk P w K mg base CX0 2 f fd ["inner", "front", "free"] (spG (relP r_closed_row)) := by
  refine fn_ok Fu sc19 (fun ds F W d W' h => by obtain ⟨⟨_, _, _, _, rfl, _⟩, _⟩ := h; rfl) (fun cdv A outer s H E hr ds W d W' vs F h hv => ?_)
  have nd_ := sc19.nd
  obtain ⟨⟨inner, front, free, hp_, rfl, rfl⟩, rfl⟩ := h
  cases hv with | @cons v_inner _ _ _ h_inner hv => ?_
  cases hv with | @cons v_front _ _ _ h_front hv => ?_
  cases hv with | @cons v_free _ _ _ h_free hv => ?_
  cases hv
  have hl_inner := rep_len h_inner
  have hl_front := rep_len h_front
  have hl_free := rep_len h_free
  obtain ⟨hp1, hp2, hp3, hp4⟩ := hp_
  refine bl_asgF (i := 3) (ev_neg (ev_blt T.sum cl_sumT (ea_cons (ev_var (i := 1) rfl h_front) ea_nil) rfl)) (.int _) ?_
  refine bl_asgF (i := 4) (ev_neg (ev_blt T.sum cl_sum (ea_cons (ev_ofLc (lc_M (own := [("place", 5), ("one", 6)]) (f := (eP D.int D.int)) (g := D.int) (fun x1 => (((x1).1 + (1 : Int)) * (x1).2)) (ei_zipR T.zip (ev_var (i := 0) rfl h_inner) (ev_var (i := 1) rfl h_front)) (by first | assumption | omega | (simp only [List.length_map, enumT_len, rg_len]; omega) | (simp; done) | (simp; omega)) (fun x1 hx2 v_ F1_ e_ r3 => by
      replace h_inner := h_inner.mono e_
      replace h_front := h_front.mono e_
      replace h_free := h_free.mono e_
      have hx2m := List.of_mem_zip hx2
      intro s_ H0_ C_ cl_ fp_
      refine tg_tup (ds := [D.int ((x1).1), D.int ((x1).2)]) r3 (fun vs6 rr7 => ?_)
      cases rr7 with | @cons v_place _ _ _ h_place rr7 => ?_
      cases rr7 with | @cons v_one _ _ _ h_one rr7 => ?_
      cases rr7
      refine tgs_cons ?_
      cases h_place
      refine tg_name (i := 5) ?_
      refine tgs_cons ?_
      cases h_one
      refine tg_name (i := 6) ?_
      refine tgs_nil ?_
      refine ⟨rfl, fun s_ H0_ C_ cl_ fp_ => ?_, fun ht_ s_ H0_ C_ cl_ fp_ => ?_⟩
      · exact ets_nil
      · exact (ev_mul (ev_add (ev_var (i := 5) rfl (.int _)) ev_int) (ev_var (i := 6) rfl (.int _)) (by exact .inl (by have := hp1 _ (List.of_mem_zip ‹_ ∈ List.zip _ _›).1; omega))))) (ok := blkOk_by (N := N19) (sc := defScope s19) (by decide +kernel))) ea_nil) rfl)) (.int _) ?_
  refine bl_asgLc (i := 7) (lc_M (own := [("place", 5)]) (f := D.int) (g := D.int) (fun x8 => (x8 + (1 : Int))) (ei_row (ev_sl (l := (some ((front).length : Int))) (u := none) (ev_var (i := 0) rfl h_inner) (eo_some (ev_blt T.len cl_lenR (ea_cons (ev_var (i := 1) rfl h_front) ea_nil) rfl)) eo_none)) (by exact Nat.le_trans (cutL_len _ _ _) (by omega)) (fun x8 hx9 v_ F1_ e_ r10 => by
      replace h_inner := h_inner.mono e_
      replace h_front := h_front.mono e_
      replace h_free := h_free.mono e_
      intro s_ H0_ C_ cl_ fp_
      cases r10
      refine tg_name (i := 5) ?_
      refine ⟨rfl, fun s_ H0_ C_ cl_ fp_ => ?_, fun ht_ s_ H0_ C_ cl_ fp_ => ?_⟩
      · exact ets_nil
      · exact (ev_add (ev_var (i := 5) rfl (.int _)) ev_int))) (ok := blkOk_by (N := N19) (sc := defScope s19) (by decide +kernel)) (fun v_last F_ e11 h_last => ?_)
  have hl_last := rep_len h_last
  replace h_inner := h_inner.mono e11
  replace h_front := h_front.mono e11
  replace h_free := h_free.mono e11
  refine bl_whenR (q := (decide ((((cutL inner (some ((front).length : Int)) none)).map fun x8 => (x8 + (1 : Int))) = ([] : List Int)))) (f := (eR false D.int)) (x := front) (y := (if (decide ((((((cutL inner (some ((front).length : Int)) none)).map fun x8 => (x8 + (1 : Int)))).length : Int) = (1 : Int))) = true then (front ++ ((if (ixI false free (1 : Int)) = true then (-(front).sum) else ((-(((((inner).zip front)).map fun x1 => (((x1).1 + (1 : Int)) * (x1).2))).sum) * (m_inverse (ixI 0 (((cutL inner (some ((front).length : Int)) none)).map fun x8 => (x8 + (1 : Int))) (0 : Int))))) :: ([] : List Int))) else (front ++ (((-(front).sum) - ((((-(((((inner).zip front)).map fun x1 => (((x1).1 + (1 : Int)) * (x1).2))).sum) - ((-(front).sum) * (ixI 0 (((cutL inner (some ((front).length : Int)) none)).map fun x8 => (x8 + (1 : Int))) (0 : Int)))) * (m_inverse ((ixI 0 (((cutL inner (some ((front).length : Int)) none)).map fun x8 => (x8 + (1 : Int))) (1 : Int)) - (ixI 0 (((cutL inner (some ((front).length : Int)) none)).map fun x8 => (x8 + (1 : Int))) (0 : Int))))) % (9973 : Int))) :: (((((-(((((inner).zip front)).map fun x1 => (((x1).1 + (1 : Int)) * (x1).2))).sum) - ((-(front).sum) * (ixI 0 (((cutL inner (some ((front).length : Int)) none)).map fun x8 => (x8 + (1 : Int))) (0 : Int)))) * (m_inverse ((ixI 0 (((cutL inner (some ((front).length : Int)) none)).map fun x8 => (x8 + (1 : Int))) (1 : Int)) - (ixI 0 (((cutL inner (some ((front).length : Int)) none)).map fun x8 => (x8 + (1 : Int))) (0 : Int))))) % (9973 : Int)) :: ([] : List Int)))))) (et_cm (ev_var (i := 7) rfl h_last) (ev_lstR ([] : List Int) (ea_nilR (f := D.int)) (by simp [rg_len, enumT_len]; try omega)) (cm_eq (f := (eR false D.int)) (x := (((cutL inner (some ((front).length : Int)) none)).map fun x8 => (x8 + (1 : Int)))) (y := ([] : List Int)) hr (Lw.row lw_int))) (fun hq12 => ?_) (fun hq12 => ?_)
  · exact bl_ret (ev_bty T.list cl_listR (ea_cons (ev_var (i := 1) rfl h_front) ea_nil) rfl) ⟨rfl, rfl⟩
  · refine bl_whenR (q := (decide ((((((cutL inner (some ((front).length : Int)) none)).map fun x8 => (x8 + (1 : Int)))).length : Int) = (1 : Int)))) (f := (eR false D.int)) (x := (front ++ ((if (ixI false free (1 : Int)) = true then (-(front).sum) else ((-(((((inner).zip front)).map fun x1 => (((x1).1 + (1 : Int)) * (x1).2))).sum) * (m_inverse (ixI 0 (((cutL inner (some ((front).length : Int)) none)).map fun x8 => (x8 + (1 : Int))) (0 : Int))))) :: ([] : List Int)))) (y := (front ++ (((-(front).sum) - ((((-(((((inner).zip front)).map fun x1 => (((x1).1 + (1 : Int)) * (x1).2))).sum) - ((-(front).sum) * (ixI 0 (((cutL inner (some ((front).length : Int)) none)).map fun x8 => (x8 + (1 : Int))) (0 : Int)))) * (m_inverse ((ixI 0 (((cutL inner (some ((front).length : Int)) none)).map fun x8 => (x8 + (1 : Int))) (1 : Int)) - (ixI 0 (((cutL inner (some ((front).length : Int)) none)).map fun x8 => (x8 + (1 : Int))) (0 : Int))))) % (9973 : Int))) :: (((((-(((((inner).zip front)).map fun x1 => (((x1).1 + (1 : Int)) * (x1).2))).sum) - ((-(front).sum) * (ixI 0 (((cutL inner (some ((front).length : Int)) none)).map fun x8 => (x8 + (1 : Int))) (0 : Int)))) * (m_inverse ((ixI 0 (((cutL inner (some ((front).length : Int)) none)).map fun x8 => (x8 + (1 : Int))) (1 : Int)) - (ixI 0 (((cutL inner (some ((front).length : Int)) none)).map fun x8 => (x8 + (1 : Int))) (0 : Int))))) % (9973 : Int)) :: ([] : List Int))))) (et_cm (ev_blt T.len cl_lenR (ea_cons (ev_var (i := 7) rfl h_last) ea_nil) rfl) ev_int (cm_eq (f := D.int) (x := (((((cutL inner (some ((front).length : Int)) none)).map fun x8 => (x8 + (1 : Int)))).length : Int)) (y := (1 : Int)) hr lw_int)) (fun hq13 => ?_) (fun hq13 => ?_)
    · exact bl_ret (ev_lstR (front ++ ((if (ixI false free (1 : Int)) = true then (-(front).sum) else ((-(((((inner).zip front)).map fun x1 => (((x1).1 + (1 : Int)) * (x1).2))).sum) * (m_inverse (ixI 0 (((cutL inner (some ((front).length : Int)) none)).map fun x8 => (x8 + (1 : Int))) (0 : Int))))) :: ([] : List Int))) (ea_starR (ev_var (i := 1) rfl h_front) (ea_consR (f := D.int) (x := (if (ixI false free (1 : Int)) = true then (-(front).sum) else ((-(((((inner).zip front)).map fun x1 => (((x1).1 + (1 : Int)) * (x1).2))).sum) * (m_inverse (ixI 0 (((cutL inner (some ((front).length : Int)) none)).map fun x8 => (x8 + (1 : Int))) (0 : Int)))))) (ev_if (f := D.int) (x := (-(front).sum)) (y := ((-(((((inner).zip front)).map fun x1 => (((x1).1 + (1 : Int)) * (x1).2))).sum) * (m_inverse (ixI 0 (((cutL inner (some ((front).length : Int)) none)).map fun x8 => (x8 + (1 : Int))) (0 : Int))))) (et_val (ev_ix (ev_var (i := 2) rfl h_free) ev_int (ixI_at (d := false) (by omega)))) (fun hi14 => (ev_var (i := 3) rfl (.int _))) (fun hi15 => (ev_mul (ev_var (i := 4) rfl (.int _)) (ev_call C_inverse (hr.mono (by decide)) (ea_cons (ev_ix (ev_var (i := 7) rfl h_last) ev_int (ixI_at (d := 0) (by have := of_decide_eq_true hq13; omega))) ea_nil) (⟨(ixI 0 (((cutL inner (some ((front).length : Int)) none)).map fun x8 => (x8 + (1 : Int))) (0 : Int)), rfl, rfl⟩)) (by exact .inr ⟨Int.lt_of_lt_of_le (by decide) (inverse_in _).1, Int.lt_trans (inverse_in _).2 (by decide)⟩)))) (ea_nilR (f := D.int)))) (by simp [rg_len, enumT_len]; try omega)) ⟨rfl, rfl⟩
    · refine bl_asgF (i := 8) (ev_mod (ev_bty T.int cl_int (ea_cons (ev_mul (ev_sub (ev_var (i := 4) rfl (.int _)) (ev_mul (ev_var (i := 3) rfl (.int _)) (ev_ix (ev_var (i := 7) rfl h_last) ev_int (ixI_at (d := 0) (by have h1 := List.length_pos_iff.mpr (of_decide_eq_false hq12); have h2 := of_decide_eq_false hq13; omega))) (by exact .inr (by have := last_in hp1 (some (front.length : Int)) none 0; omega)))) (ev_call C_inverse (hr.mono (by decide)) (ea_cons (ev_sub (ev_ix (ev_var (i := 7) rfl h_last) ev_int (ixI_at (d := 0) (by have h1 := List.length_pos_iff.mpr (of_decide_eq_false hq12); have h2 := of_decide_eq_false hq13; omega))) (ev_ix (ev_var (i := 7) rfl h_last) ev_int (ixI_at (d := 0) (by have h1 := List.length_pos_iff.mpr (of_decide_eq_false hq12); have h2 := of_decide_eq_false hq13; omega)))) ea_nil) (⟨((ixI 0 (((cutL inner (some ((front).length : Int)) none)).map fun x8 => (x8 + (1 : Int))) (1 : Int)) - (ixI 0 (((cutL inner (some ((front).length : Int)) none)).map fun x8 => (x8 + (1 : Int))) (0 : Int))), rfl, rfl⟩)) (by exact .inr ⟨Int.lt_of_lt_of_le (by decide) (inverse_in _).1, Int.lt_trans (inverse_in _).2 (by decide)⟩)) ea_nil) rfl) (ev_gI T.PRIME) (by first | decide | omega)) (.int _) ?_
      exact bl_ret (ev_lstR (front ++ (((-(front).sum) - ((((-(((((inner).zip front)).map fun x1 => (((x1).1 + (1 : Int)) * (x1).2))).sum) - ((-(front).sum) * (ixI 0 (((cutL inner (some ((front).length : Int)) none)).map fun x8 => (x8 + (1 : Int))) (0 : Int)))) * (m_inverse ((ixI 0 (((cutL inner (some ((front).length : Int)) none)).map fun x8 => (x8 + (1 : Int))) (1 : Int)) - (ixI 0 (((cutL inner (some ((front).length : Int)) none)).map fun x8 => (x8 + (1 : Int))) (0 : Int))))) % (9973 : Int))) :: (((((-(((((inner).zip front)).map fun x1 => (((x1).1 + (1 : Int)) * (x1).2))).sum) - ((-(front).sum) * (ixI 0 (((cutL inner (some ((front).length : Int)) none)).map fun x8 => (x8 + (1 : Int))) (0 : Int)))) * (m_inverse ((ixI 0 (((cutL inner (some ((front).length : Int)) none)).map fun x8 => (x8 + (1 : Int))) (1 : Int)) - (ixI 0 (((cutL inner (some ((front).length : Int)) none)).map fun x8 => (x8 + (1 : Int))) (0 : Int))))) % (9973 : Int)) :: ([] : List Int)))) (ea_starR (ev_var (i := 1) rfl h_front) (ea_consR (f := D.int) (x := ((-(front).sum) - ((((-(((((inner).zip front)).map fun x1 => (((x1).1 + (1 : Int)) * (x1).2))).sum) - ((-(front).sum) * (ixI 0 (((cutL inner (some ((front).length : Int)) none)).map fun x8 => (x8 + (1 : Int))) (0 : Int)))) * (m_inverse ((ixI 0 (((cutL inner (some ((front).length : Int)) none)).map fun x8 => (x8 + (1 : Int))) (1 : Int)) - (ixI 0 (((cutL inner (some ((front).length : Int)) none)).map fun x8 => (x8 + (1 : Int))) (0 : Int))))) % (9973 : Int)))) (ev_sub (ev_var (i := 3) rfl (.int _)) (ev_var (i := 8) rfl (.int _))) (ea_consR (f := D.int) (x := ((((-(((((inner).zip front)).map fun x1 => (((x1).1 + (1 : Int)) * (x1).2))).sum) - ((-(front).sum) * (ixI 0 (((cutL inner (some ((front).length : Int)) none)).map fun x8 => (x8 + (1 : Int))) (0 : Int)))) * (m_inverse ((ixI 0 (((cutL inner (some ((front).length : Int)) none)).map fun x8 => (x8 + (1 : Int))) (1 : Int)) - (ixI 0 (((cutL inner (some ((front).length : Int)) none)).map fun x8 => (x8 + (1 : Int))) (0 : Int))))) % (9973 : Int))) (ev_var (i := 8) rfl (.int _)) (ea_nilR (f := D.int))))) (by simp [rg_len, enumT_len]; try omega)) ⟨rfl, rfl⟩
def m_is_just (inner : (List Int)) (row : (List Int)) (free : (List Bool)) : Bool := (decide (((!decide (((row).sum % (9973 : Int)) = (0 : Int))) :: ((!decide (((((((inner).zip row)).map fun x1 => (((x1).1 + (1 : Int)) * (x1).2))).sum % (9973 : Int)) = (0 : Int))) :: ([] : List Bool))) = free))
def r_is_just : List D → D → Prop := fun ds d => ∃ (inner : (List Int)) (row : (List Int)) (free : (List Bool)), (∀ p ∈ inner, 0 ≤ p ∧ p < 100) ∧ ds = [(eR false D.int) inner, (eR false D.int) row, (eR false D.bl) free] ∧ d = D.bl (m_is_just inner row free)
abbrev s21 : Stmt := topS 21
abbrev N21 : List Str := ["inner", "row", "free", "plain", "heavy", "place", "one"]
theorem sc21 : FnScope N21 ["inner", "row", "free"] (defScope s21) := ⟨rfl, rfl, rfl, by decide +kernel, rfl, by decide +kernel, by decide +kernel⟩
theorem d_is_just (T : Txt K mg)  {f : Addr} {fd : FuncData} (Fu : Fun K "is_just" "is_just" s21 f fd) : FnOk P w K mg base CX0 1 f fd ["inner", "row", "free"] (spG (relP r_is_just)) := by
  refine fn_ok Fu sc21 (fun ds F W d W' h => by obtain ⟨⟨_, _, _, _, rfl, _⟩, _⟩ := h; rfl) (fun cdv A outer s H E hr ds W d W' vs F h hv => ?_)
  have nd_ := sc21.nd
  obtain ⟨⟨inner, row, free, hp_, rfl, rfl⟩, rfl⟩ := h
  cases hv with | @cons v_inner _ _ _ h_inner hv => ?_
  cases hv with | @cons v_row _ _ _ h_row hv => ?_
  cases hv with | @cons v_free _ _ _ h_free hv => ?_
  cases hv
  have hl_inner := rep_len h_inner
  have hl_row := rep_len h_row
  have hl_free := rep_len h_free
  have hp1 := hp_
  refine bl_asgF (i := 3) (ev_mod (ev_bty T.int cl_int (ea_cons (ev_blt T.sum cl_sum (ea_cons (ev_var (i := 1) rfl h_row) ea_nil) rfl) ea_nil) rfl) (ev_gI T.PRIME) (by first | decide | omega)) (.int _) ?_
  refine bl_asgF (i := 4) (ev_mod (ev_bty T.int cl_int (ea_cons (ev_blt T.sum cl_sum (ea_cons (ev_ofLc (lc_M (own := [("place", 5), ("one", 6)]) (f := (eP D.int D.int)) (g := D.int) (fun x1 => (((x1).1 + (1 : Int)) * (x1).2)) (ei_zipR T.zip (ev_var (i := 0) rfl h_inner) (ev_var (i := 1) rfl h_row)) (by first | assumption | omega | (simp only [List.length_map, enumT_len, rg_len]; omega) | (simp; done) | (simp; omega)) (fun x1 hx2 v_ F1_ e_ r3 => by
      replace h_inner := h_inner.mono e_
      replace h_row := h_row.mono e_
      replace h_free := h_free.mono e_
      have hx2m := List.of_mem_zip hx2
      intro s_ H0_ C_ cl_ fp_
      refine tg_tup (ds := [D.int ((x1).1), D.int ((x1).2)]) r3 (fun vs6 rr7 => ?_)
      cases rr7 with | @cons v_place _ _ _ h_place rr7 => ?_
      cases rr7 with | @cons v_one _ _ _ h_one rr7 => ?_
      cases rr7
      refine tgs_cons ?_
      cases h_place
      refine tg_name (i := 5) ?_
      refine tgs_cons ?_
      cases h_one
      refine tg_name (i := 6) ?_
      refine tgs_nil ?_
      refine ⟨rfl, fun s_ H0_ C_ cl_ fp_ => ?_, fun ht_ s_ H0_ C_ cl_ fp_ => ?_⟩
      · exact ets_nil
      · exact (ev_mul (ev_add (ev_var (i := 5) rfl (.int _)) ev_int) (ev_var (i := 6) rfl (.int _)) (by exact .inl (by have := hp1 _ (List.of_mem_zip ‹_ ∈ List.zip _ _›).1; omega))))) (ok := blkOk_by (N := N21) (sc := defScope s21) (by decide +kernel))) ea_nil) rfl) ea_nil) rfl) (ev_gI T.PRIME) (by first | decide | omega)) (.int _) ?_
  exact bl_ret (ev_cm (ev_lstR ((!decide (((row).sum % (9973 : Int)) = (0 : Int))) :: ((!decide (((((((inner).zip row)).map fun x1 => (((x1).1 + (1 : Int)) * (x1).2))).sum % (9973 : Int)) = (0 : Int))) :: ([] : List Bool))) (ea_consR (f := D.bl) (x := (!decide (((row).sum % (9973 : Int)) = (0 : Int)))) (ev_cm (ev_var (i := 3) rfl (.int _)) ev_int (cm_ne (f := D.int) (x := ((row).sum % (9973 : Int))) (y := (0 : Int)) hr lw_int)) (ea_consR (f := D.bl) (x := (!decide (((((((inner).zip row)).map fun x1 => (((x1).1 + (1 : Int)) * (x1).2))).sum % (9973 : Int)) = (0 : Int)))) (ev_cm (ev_var (i := 4) rfl (.int _)) ev_int (cm_ne (f := D.int) (x := ((((((inner).zip row)).map fun x1 => (((x1).1 + (1 : Int)) * (x1).2))).sum % (9973 : Int))) (y := (0 : Int)) hr lw_int)) (ea_nilR (f := D.bl)))) (by simp [rg_len, enumT_len]; try omega)) (ev_bty T.list cl_listR (ea_cons (ev_var (i := 2) rfl h_free) ea_nil) rfl) (cm_eq (f := (eR false D.bl)) (x := ((!decide (((row).sum % (9973 : Int)) = (0 : Int))) :: ((!decide (((((((inner).zip row)).map fun x1 => (((x1).1 + (1 : Int)) * (x1).2))).sum % (9973 : Int)) = (0 : Int))) :: ([] : List Bool)))) (y := free) hr (Lw.row lw_bl))) ⟨rfl, rfl⟩
def m_changes_of (inner : (List Int)) (free : (List Bool)) : (Option (List Int)) := (match lpR (fun (s4 : Unit) (x5 : (List Int)) => (((if ((!false) && ((((((m_closed_row (inner) (x5) (free))).map fun x13 => (!decide ((x13 % (9973 : Int)) = (0 : Int))))).all id) && (m_is_just (inner) (m_closed_row (inner) (x5) (free)) (free)))) = true then (.error (some (m_closed_row (inner) (x5) (free)))) else (.ok ()))) : Except (Option (List Int)) Unit)) (m_rows_of_changes (((inner).length : Int) - ((2 : Int) - (((((free).filter fun x1 => x1).map fun x1 => x1)).length : Int)))) () with | .ok s4 => none | .error r_ => r_)
def r_changes_of : List D → D → Prop := fun ds d => ∃ (inner : (List Int)) (free : (List Bool)), ((∀ p ∈ inner, 0 ≤ p ∧ p < 100) ∧ inner.length ≤ 50 ∧ free.length = 2) ∧ ds = [(eR false D.int) inner, (eR false D.bl) free] ∧ d = (eO (eR false D.int)) (m_changes_of inner free)
abbrev s17 : Stmt := topS 17
abbrev N17 : List Str := ["inner", "free", "spare", "one", "front", "row"]
theorem sc17 : FnScope N17 ["inner", "free"] (defScope s17) := ⟨rfl, rfl, rfl, by decide +kernel, rfl, by decide +kernel, by decide +kernel⟩
theorem d_changes_of (T : Txt K mg) (C_rows_of_changes : FnD P w K mg base 1 "rows_of_changes" ["many"] (relP r_rows_of_changes)) (C_closed_row : FnD P w K mg base 2 "closed_row" ["inner", "front", "free"] (relP r_closed_row)) (C_is_just : FnD P w K mg base 1 "is_just" ["inner", "row", "free"] (relP r_is_just)) {f : Addr} {fd : FuncData} (Fu : Fun K "changes_of" "changes_of" s17 f fd) : FnOk P w K mg base CX0 3 f fd ["inner", "free"] (spG (relP r_changes_of)) := by
  refine fn_ok Fu sc17 (fun ds F W d W' h => by obtain ⟨⟨_, _, _, rfl, _⟩, _⟩ := h; rfl) (fun cdv A outer s H E hr ds W d W' vs F h hv => ?_)
  have nd_ := sc17.nd
  obtain ⟨⟨inner, free, hp_, rfl, rfl⟩, rfl⟩ := h
  cases hv with | @cons v_inner _ _ _ h_inner hv => ?_
  cases hv with | @cons v_free _ _ _ h_free hv => ?_
  cases hv
  have hl_inner := rep_len h_inner
  have hl_free := rep_len h_free
  obtain ⟨hp1, hp2, hp3⟩ := hp_
  refine bl_asgF (i := 2) (ev_sub ev_int (ev_blt T.len cl_lenR (ea_cons (ev_ofLc (lc_F (own := [("one", 3)]) (f := D.bl) (g := D.bl) (fun x1 => x1) (fun x1 => x1) (ei_row (ev_var (i := 1) rfl h_free)) (by first | assumption | omega | (simp only [List.length_map, enumT_len, rg_len]; omega) | (simp; done) | (simp; omega)) (fun x1 hx2 v_ F1_ e_ r3 => by
      replace h_inner := h_inner.mono e_
      replace h_free := h_free.mono e_
      intro s_ H0_ C_ cl_ fp_
      cases r3
      refine tg_name (i := 3) ?_
      refine ⟨rfl, fun s_ H0_ C_ cl_ fp_ => ?_, fun ht_ s_ H0_ C_ cl_ fp_ => ?_⟩
      · exact ets_one (et_val (ev_var (i := 3) rfl (.bl _)))
      · exact (ev_var (i := 3) rfl (.bl _)))) (ok := blkOk_by (N := N17) (sc := defScope s17) (by decide +kernel))) ea_nil) rfl)) (.int _) ?_
  refine bl_forR (R := (Option (List Int))) (xs := (m_rows_of_changes (((inner).length : Int) - ((2 : Int) - (((((free).filter fun x1 => x1).map fun x1 => x1)).length : Int))))) (f := (eR true D.int)) (ei_row (ev_call C_rows_of_changes (hr.mono (by decide)) (ea_cons (ev_sub (ev_blt T.len cl_lenR (ea_cons (ev_var (i := 0) rfl h_inner) ea_nil) rfl) (ev_var (i := 2) rfl (.int _))) ea_nil) (⟨(((inner).length : Int) - ((2 : Int) - (((((free).filter fun x1 => x1).map fun x1 => x1)).length : Int))), (by have h1 := List.length_filter_le (fun x : Bool => x) free; simp only [List.length_map]; omega), rfl, rfl⟩))) (fun (s4 : Unit) (x5 : (List Int)) => (((if ((!false) && ((((((m_closed_row (inner) (x5) (free))).map fun x13 => (!decide ((x13 % (9973 : Int)) = (0 : Int))))).all id) && (m_is_just (inner) (m_closed_row (inner) (x5) (free)) (free)))) = true then (.error (some (m_closed_row (inner) (x5) (free)))) else (.ok ()))) : Except (Option (List Int)) Unit)) () (fun (s_ : Unit) σ_ F_ W_ => ∃ (o_front : Option V) (o_row : Option V), σ_ = [some v_inner, some v_free, some (.int ((2 : Int) - (((((free).filter fun x1 => x1).map fun x1 => x1)).length : Int))), none, o_front, o_row] ∧ W_ = W') (fun F_ e_ => ?_) (fun x5 hx7 s4 σ_ F_ W_ e_ J_ v_ F2_ e2_ r8 => ?_) (fun s4 hl_ σ_ F_ W_ e_ J_ => ?_)
  · replace h_inner := h_inner.mono e_
    replace h_free := h_free.mono e_
    exact ⟨_, _, rfl, rfl⟩
  · replace h_inner := h_inner.mono e_
    replace h_free := h_free.mono e_
    obtain ⟨o_front, o_row, rfl, rfl⟩ := J_
    replace h_inner := h_inner.mono e2_
    replace h_free := h_free.mono e2_
    refine tg_name (i := 4) ?_
    refine bl_asg (i := 5) (ev_call C_closed_row (hr.mono (by decide)) (ea_cons (ev_var (i := 0) rfl h_inner) (ea_cons (ev_var (i := 4) rfl r8) (ea_cons (ev_var (i := 1) rfl h_free) ea_nil))) (⟨(inner), (x5), (free), (by have hm := ‹_ ∈ m_rows_of_changes _›; exact ⟨hp1, by omega, rows_len (by have h1 := List.length_filter_le (fun x : Bool => x) free; simp only [List.length_map]; omega) _ hm, hp3⟩), rfl, rfl⟩)) (fun v_row F_ e11 h_row => ?_)
    have hl_row := rep_len h_row
    replace h_inner := h_inner.mono e11
    replace h_free := h_free.mono e11
    replace r8 := r8.mono e11
    refine bl_when (q := ((!false) && ((((((m_closed_row (inner) (x5) (free))).map fun x13 => (!decide ((x13 % (9973 : Int)) = (0 : Int))))).all id) && (m_is_just (inner) (m_closed_row (inner) (x5) (free)) (free))))) (et_w (ew_and (et_cm (ev_var (i := 5) rfl h_row) ev_non cm_isnot) (fun hb12 => (ew_and (et_val (ev_blt T.all cl_all (ea_cons (ev_ofLc (lc_M (own := [("one", 3)]) (f := D.int) (g := D.bl) (fun x13 => (!decide ((x13 % (9973 : Int)) = (0 : Int)))) (ei_row (ev_var (i := 5) rfl h_row)) (by first | assumption | omega | (simp only [List.length_map, enumT_len, rg_len]; omega) | (simp; done) | (simp; omega)) (fun x13 hx14 v_ F1_ e_ r15 => by
      replace h_inner := h_inner.mono e_
      replace h_free := h_free.mono e_
      replace r8 := r8.mono e_
      replace h_row := h_row.mono e_
      intro s_ H0_ C_ cl_ fp_
      cases r15
      refine tg_name (i := 3) ?_
      refine ⟨rfl, fun s_ H0_ C_ cl_ fp_ => ?_, fun ht_ s_ H0_ C_ cl_ fp_ => ?_⟩
      · exact ets_nil
      · exact (ev_cm (ev_mod (ev_bty T.int cl_int (ea_cons (ev_var (i := 3) rfl (.int _)) ea_nil) rfl) (ev_gI T.PRIME) (by first | decide | omega)) ev_int (cm_ne (f := D.int) (x := (x13 % (9973 : Int))) (y := (0 : Int)) hr lw_int)))) (ok := blkOk_by (N := N17) (sc := defScope s17) (by decide +kernel))) ea_nil) rfl)) (fun hb16 => (ew_and1 (et_val (ev_call C_is_just (hr.mono (by decide)) (ea_cons (ev_var (i := 0) rfl h_inner) (ea_cons (ev_var (i := 5) rfl h_row) (ea_cons (ev_var (i := 1) rfl h_free) ea_nil))) (⟨(inner), (m_closed_row (inner) (x5) (free)), (free), (by exact hp1), rfl, rfl⟩))))))))) (fun hq17 => ?_) (fun hq17 => ?_)
    · exact bl_ret (ev_is (d1 := (eO (eR false D.int)) (some (m_closed_row (inner) (x5) (free)))) (ev_var (i := 5) rfl h_row) rfl) ⟨(some (m_closed_row (inner) (x5) (free))), (by simp only [hq17, Bool.false_eq_true, if_true, if_false]), fun hl_ => by show _ = _ ∧ _; (try unfold m_changes_of); rw [hl_]; exact ⟨rfl, rfl⟩⟩
    · exact bl_nil ⟨(), (by simp only [hq17, Bool.false_eq_true, if_true, if_false]), ⟨_, _, rfl, rfl⟩⟩
  · replace h_inner := h_inner.mono e_
    replace h_free := h_free.mono e_
    obtain ⟨o_front, o_row, rfl, rfl⟩ := J_
    (try unfold m_changes_of)
    rw [hl_]
    exact bl_ret (ev_is (d1 := (eO (eR false D.int)) none) ev_non rfl) ⟨rfl, rfl⟩
end
end B
set_option Elab.async false
set_option linter.all false
set_option maxRecDepth 100000
set_option maxHeartbeats 1000000
namespace B
open PySem PySem.Spec PyProof.Rows L2 Z
structure Cl (K : PySem.W.Frag) (mg : Str → Option Value) (CN CH : Addr) : Prop where
  n : ClsF K CN
  h : ClsF K CH
  plain : ZPl.MkP K CN
  gn : mg "Noticed" = some (.ref CN)
  gh : mg "Hidden" = some (.ref CH)
  one : NoAttr K CH "one"
  other : NoAttr K CH "other"
  isn : PySem.W.kitOne K (.ref CN) (.ref CN) = some true
  nfn : PySem.W.notFirst K CN (.ref CN) = true
def eN (CN : Addr) (_ : Unit) : D := .ob CN []
def eH (CH : Addr) (p : List Int × List Int) : D := .ob CH [("one", eR true D.int p.1), ("other", eR true D.int p.2)]
def eV (CN CH : Addr) : Option (List Int × List Int) → D
  | none => eN CN ()
  | some p => eH CH p
def rel_init : List D → List (Str × D) → Prop := fun ds fds => ∃ (t u : Bool) (one other : List Int), ds = [eR t D.int one, eR u D.int other] ∧ fds = [(("one" : Str), eR true D.int one), (("other" : Str), eR true D.int other)]
section
variable {P : Program} {w : World} {K : PySem.W.Frag} {mg : Str → Option Value} {base : Heap} {CN CH : Addr}
abbrev s14x0 : Stmt := clsS (topS 14) 0
theorem sc14x0 : FnScope ["self", "one", "other"] ["self", "one", "other"] (defScope s14x0) := ⟨rfl, rfl, rfl, by decide +kernel, rfl, by decide +kernel, by decide +kernel⟩
theorem d_Hidden_init (T : Txt K mg) (Y : Cl K mg CN CH) {f : Addr} {fd : FuncData} (Fu : Fun K "__init__" "Hidden.__init__" s14x0 f fd) : FnOk P w K mg base CX0 1 f fd ["self", "one", "other"] (spI CH rel_init) := by
  refine init_ok Fu sc14x0 (fun ds fds h => by obtain ⟨_, _, _, _, rfl, _⟩ := h; rfl) (fun cdv A outer s H E hr ds fds W x dx vs F h hv hw => ?_)
  obtain ⟨t, u, one, other, rfl, rfl⟩ := h
  cases hv with | @cons v_one _ _ _ h_one hv => ?_
  cases hv with | @cons v_other _ _ _ h_other hv => ?_
  cases hv
  refine bl_fld (ev_bty T.tuple cl_tupleR (ea_cons (ev_var (i := 1) rfl h_one) ea_nil) rfl) (ev_var (i := 0) rfl (.ow _)) hw Y.h.cls Y.one (by decide) (fun v1 F1 e1 h1 => ?_)
  replace h_other := h_other.mono e1
  refine bl_fld (ev_bty T.tuple cl_tupleR (ea_cons (ev_var (i := 2) rfl h_other) ea_nil) rfl) (ev_var (i := 0) rfl (.ow _)) upd_same Y.h.cls Y.other (by simp [putF]) (fun v2 F2 e2 h2 => ?_)
  rw [upd_upd]
  exact bl_nil ⟨_, rfl, .cons (h1.mono e2) (.cons h2 .nil)⟩

theorem eO_get {α : Type} {f : α → D} {x : Option α} {d : α} (h : x.isSome = true) : eO f x = f (x.getD d) := by
  cases x with
  | none => simp at h
  | some y => rfl
def jSmall (many : Int) (places : List Int) : Bool := (decide (((((((sortI places).filter fun x => (decide (x < many))).map fun x => x)).length : Int) + (((((places).filter fun x => (decide (many ≤ x))).map fun x => x)).length : Int)) < (3 : Int))) || (decide ((((sortI places).filter fun x => (decide (x < many))).map fun x => x) = ([] : List Int)))
def jCh (many : Int) (places : List Int) : Option (List Int) := m_changes_of (((sortI places).filter fun x => (decide (x < many))).map fun x => x) [decide (many ∈ (((places).filter fun x => (decide (many ≤ x))).map fun x => x)), decide (many + 1 ∈ (((places).filter fun x => (decide (many ≤ x))).map fun x => x))]
def JOk (many : Int) (places : List Int) : Prop := Pls many places ∧ (jSmall many places = false → (jCh many places).isSome = true)

theorem jmem {many : Int} {places : List Int} (h : Pls many places) {p : Int} (hp : p ∈ (((sortI places).filter fun x => (decide (x < many))).map fun x => x)) : p ∈ places ∧ 0 ≤ p ∧ p < many := by
  obtain ⟨q, hq, rfl⟩ := List.mem_map.mp hp
  obtain ⟨h1, h2⟩ := List.mem_filter.mp hq
  have h3 := sortI_mem.mp h1
  have := h.2.2.1 q h3
  have := of_decide_eq_true h2
  exact ⟨h3, by omega, by omega⟩
theorem jpre {many : Int} {places : List Int} {a b : Bool} (h : Pls many places) : (∀ p ∈ (((sortI places).filter fun x => (decide (x < many))).map fun x => x), 0 ≤ p ∧ p < 100) ∧ (((sortI places).filter fun x => (decide (x < many))).map fun x => x).length ≤ 50 ∧ [a, b].length = 2 := by
  refine ⟨fun p hp => ?_, ?_, rfl⟩
  · have := jmem h hp
    have := h.2.1
    omega
  · rw [List.length_map]
    have h1 := List.length_filter_le (fun x => decide (x < many)) (sortI places)
    rw [sortI_len] at h1
    have := h.2.2.2.2
    omega
theorem set_in {s : List Int} {n i : Nat} {v : Int} (h : s.length = n ∧ ∀ w ∈ s, 0 ≤ w ∧ w < 9973) (hv : 0 ≤ v ∧ v < 9973) : (s.set i v).length = n ∧ ∀ w ∈ s.set i v, 0 ≤ w ∧ w < 9973 := by
  refine ⟨by rw [List.length_set]; exact h.1, fun w hw => ?_⟩
  rcases List.mem_or_eq_of_mem_set hw with h1 | h1
  · exact h.2 w h1
  · rw [h1]; exact hv
theorem rep_in {n : Nat} : (List.replicate n [(0 : Int)]).flatten.length = n ∧ ∀ w ∈ (List.replicate n [(0 : Int)]).flatten, 0 ≤ w ∧ w < 9973 := by
  refine ⟨by simp, fun w hw => ?_⟩
  simp at hw
  rw [hw.2]; decide
theorem mod_in (v : Int) : 0 ≤ v % 9973 ∧ v % 9973 < 9973 := by omega

def m_judge_noticed (many : Int) (places : (List Int)) : (Option (List Int × List Int)) := (if ((decide ((((((((sortI places)).filter fun x1 => (decide (x1 < many))).map fun x1 => x1)).length : Int) + (((((places).filter fun x4 => (decide (many ≤ x4))).map fun x4 => x4)).length : Int)) < (3 : Int))) || (decide (((((sortI places)).filter fun x1 => (decide (x1 < many))).map fun x1 => x1) = ([] : List Int)))) = true then none else (some ((m_block_of (List.replicate (many).toNat ((0 : Int) :: ([] : List Int))).flatten), (m_block_of ((((((((sortI places)).filter fun x1 => (decide (x1 < many))).map fun x1 => x1)).zip (((m_changes_of ((((sortI places)).filter fun x1 => (decide (x1 < many))).map fun x1 => x1) ((decide (many ∈ (((places).filter fun x4 => (decide (many ≤ x4))).map fun x4 => x4))) :: ((decide ((many + (1 : Int)) ∈ (((places).filter fun x4 => (decide (many ≤ x4))).map fun x4 => x4))) :: ([] : List Bool))))).getD []))).foldl (fun (s11 : (List Int)) (x12 : (Int × Int)) => ((s11.set ((x12).1).toNat ((x12).2 % (9973 : Int))))) ((List.replicate (many).toNat ((0 : Int) :: ([] : List Int))).flatten))))))
def r_judge_noticed (CN CH : Addr) : List D → D → Prop := fun ds d => ∃ (t : Bool) (many : Int) (places : (List Int)), (JOk many places) ∧ ds = [D.int many, (eR t D.int) places] ∧ d = (eV CN CH) (m_judge_noticed many places)
abbrev s16 : Stmt := topS 16
abbrev N16 : List Str := ["many", "places", "inner", "sums", "place", "words", "one"]
theorem sc16 : FnScope N16 ["many", "places"] (defScope s16) := ⟨rfl, rfl, rfl, by decide +kernel, rfl, by decide +kernel, by decide +kernel⟩
theorem d_judge_noticed (T : Txt K mg) (C_block_of : FnD P w K mg base 3 "block_of" ["words"] (relP r_block_of)) (C_check_places : FnD P w K mg base 2 "check_places" ["many", "places"] (relP r_check_places)) (C_changes_of : FnD P w K mg base 3 "changes_of" ["inner", "free"] (relP r_changes_of)) (Y : Cl K mg CN CH) (InH : InD P w K mg base 1 "Hidden" CH ["self", "one", "other"] rel_init) {f : Addr} {fd : FuncData} (Fu : Fun K "judge_noticed" "judge_noticed" s16 f fd) : FnOk P w K mg base CX0 4 f fd ["many", "places"] (spG (relP (r_judge_noticed CN CH))) := by
  refine fn_ok Fu sc16 (fun ds F W d W' h => by obtain ⟨⟨_, _, _, _, rfl, _⟩, _⟩ := h; rfl) (fun cdv A outer s H E hr ds W d W' vs F h hv => ?_)
  have nd_ := sc16.nd
  obtain ⟨⟨t, many, places, hp_, rfl, rfl⟩, rfl⟩ := h
  cases hv with | @cons v_many _ _ _ h_many hv => ?_
  cases hv with | @cons v_places _ _ _ h_places hv => ?_
  cases hv
  cases h_many
  have hl_places := rep_len h_places
  obtain ⟨hpp, hpj⟩ := hp_
  obtain ⟨hp1, hp2, hp3, hp4, hp5⟩ := id hpp
  refine bl_expr (ev_call C_check_places (hr.mono (by decide)) (ea_cons (ev_var (i := 0) rfl (.int _)) (ea_cons (ev_var (i := 1) rfl h_places) ea_nil)) (⟨t, (many), (places), (by first | assumption | exact hp_.1 | omega), rfl, rfl⟩)) ?_
  refine bl_par2 (i := 2) (j := 3) (ea_cons (ev_ofLc (lc_F (own := [("place", 4)]) (f := D.int) (g := D.int) (fun x1 => (decide (x1 < many))) (fun x1 => x1) (ei_row (ev_blt T.sorted cl_sortedB (ea_cons (ev_var (i := 1) rfl h_places) ea_nil) rfl)) (by rw [sortI_len]; omega) (fun x1 hx2 v_ F1_ e_ r3 => by
      replace h_places := h_places.mono e_
      intro s_ H0_ C_ cl_ fp_
      cases r3
      refine tg_name (i := 4) ?_
      refine ⟨rfl, fun s_ H0_ C_ cl_ fp_ => ?_, fun ht_ s_ H0_ C_ cl_ fp_ => ?_⟩
      · exact ets_one (et_cm (ev_var (i := 4) rfl (.int _)) (ev_var (i := 0) rfl (.int _)) cm_lt)
      · exact (ev_var (i := 4) rfl (.int _)))) (ok := blkOk_by (N := N16) (sc := defScope s16) (by decide +kernel))) (ea_cons (ev_ofLc (lc_F (own := [("place", 4)]) (f := D.int) (g := D.int) (fun x4 => (decide (many ≤ x4))) (fun x4 => x4) (ei_row (ev_var (i := 1) rfl h_places)) (by first | assumption | omega | (simp only [List.length_map, enumT_len, rg_len]; omega) | (simp; done) | (simp; omega)) (fun x4 hx5 v_ F1_ e_ r6 => by
      replace h_places := h_places.mono e_
      intro s_ H0_ C_ cl_ fp_
      cases r6
      refine tg_name (i := 4) ?_
      refine ⟨rfl, fun s_ H0_ C_ cl_ fp_ => ?_, fun ht_ s_ H0_ C_ cl_ fp_ => ?_⟩
      · exact ets_one (et_cm (ev_var (i := 4) rfl (.int _)) (ev_var (i := 0) rfl (.int _)) cm_ge)
      · exact (ev_var (i := 4) rfl (.int _)))) (ok := blkOk_by (N := N16) (sc := defScope s16) (by decide +kernel))) ea_nil)) (fun v_inner v_sums F_ e7 h_inner h_sums => ?_)
  replace h_places := h_places.mono e7
  refine bl_whenR (q := ((decide ((((((((sortI places)).filter fun x1 => (decide (x1 < many))).map fun x1 => x1)).length : Int) + (((((places).filter fun x4 => (decide (many ≤ x4))).map fun x4 => x4)).length : Int)) < (3 : Int))) || (decide (((((sortI places)).filter fun x1 => (decide (x1 < many))).map fun x1 => x1) = ([] : List Int))))) (f := (eV CN CH)) (x := none) (y := (some ((m_block_of (List.replicate (many).toNat ((0 : Int) :: ([] : List Int))).flatten), (m_block_of ((((((((sortI places)).filter fun x1 => (decide (x1 < many))).map fun x1 => x1)).zip (((m_changes_of ((((sortI places)).filter fun x1 => (decide (x1 < many))).map fun x1 => x1) ((decide (many ∈ (((places).filter fun x4 => (decide (many ≤ x4))).map fun x4 => x4))) :: ((decide ((many + (1 : Int)) ∈ (((places).filter fun x4 => (decide (many ≤ x4))).map fun x4 => x4))) :: ([] : List Bool))))).getD []))).foldl (fun (s11 : (List Int)) (x12 : (Int × Int)) => ((s11.set ((x12).1).toNat ((x12).2 % (9973 : Int))))) ((List.replicate (many).toNat ((0 : Int) :: ([] : List Int))).flatten)))))) (et_w (ew_or (et_cm (ev_add (ev_blt T.len cl_lenR (ea_cons (ev_var (i := 2) rfl h_inner) ea_nil) rfl) (ev_blt T.len cl_lenR (ea_cons (ev_var (i := 3) rfl h_sums) ea_nil) rfl)) ev_int cm_lt) (fun hb8 => (ew_or1 (et_cm (ev_var (i := 2) rfl h_inner) (ev_lstR ([] : List Int) (ea_nilR (f := D.int)) (by simp [rg_len, enumT_len]; try omega)) (cm_eq (f := (eR false D.int)) (x := ((((sortI places)).filter fun x1 => (decide (x1 < many))).map fun x1 => x1)) (y := ([] : List Int)) hr (Lw.row lw_int))))))) (fun hq9 => ?_) (fun hq9 => ?_)
  · exact bl_ret (ev_is (d1 := eV CN CH none) (ev_plain Y.plain Y.gn) rfl) ⟨rfl, rfl⟩
  · refine bl_asgN (i := 5) (en_repR (ev_lstR ((0 : Int) :: ([] : List Int)) (ea_consR (f := D.int) (x := (0 : Int)) ev_int (ea_nilR (f := D.int))) (by simp [rg_len, enumT_len]; try omega)) (ev_var (i := 0) rfl (.int _)) (by omega) (by simp; omega) (by omega)) (fun l_words vs_words F_ e10 h_words wn_words => ?_)
    replace h_words : Reps F_ vs_words (((List.replicate (many).toNat ((0 : Int) :: ([] : List Int))).flatten).map D.int) := h_words
    replace h_places := h_places.mono e10
    replace h_inner := h_inner.mono e10
    replace h_sums := h_sums.mono e10
    refine bl_forI (xs := ((((((sortI places)).filter fun x1 => (decide (x1 < many))).map fun x1 => x1)).zip (((m_changes_of ((((sortI places)).filter fun x1 => (decide (x1 < many))).map fun x1 => x1) ((decide (many ∈ (((places).filter fun x4 => (decide (many ≤ x4))).map fun x4 => x4))) :: ((decide ((many + (1 : Int)) ∈ (((places).filter fun x4 => (decide (many ≤ x4))).map fun x4 => x4))) :: ([] : List Bool))))).getD []))) (f := (eP D.int D.int)) (ei_zipR T.zip (ev_var (i := 2) rfl h_inner) (ev_is (d1 := eR false D.int (((m_changes_of ((((sortI places)).filter fun x1 => (decide (x1 < many))).map fun x1 => x1) ((decide (many ∈ (((places).filter fun x4 => (decide (many ≤ x4))).map fun x4 => x4))) :: ((decide ((many + (1 : Int)) ∈ (((places).filter fun x4 => (decide (many ≤ x4))).map fun x4 => x4))) :: ([] : List Bool))))).getD [])) (ev_call C_changes_of (hr.mono (by decide)) (ea_cons (ev_var (i := 2) rfl h_inner) (ea_cons (ev_lstR ((decide (many ∈ (((places).filter fun x4 => (decide (many ≤ x4))).map fun x4 => x4))) :: ((decide ((many + (1 : Int)) ∈ (((places).filter fun x4 => (decide (many ≤ x4))).map fun x4 => x4))) :: ([] : List Bool))) (ea_consR (f := D.bl) (x := (decide (many ∈ (((places).filter fun x4 => (decide (many ≤ x4))).map fun x4 => x4)))) (ev_cm (ev_var (i := 0) rfl (.int _)) (ev_var (i := 3) rfl h_sums) (cm_in (f := D.int) (x := many) (xs := (((places).filter fun x4 => (decide (many ≤ x4))).map fun x4 => x4)) hr lw_int) (by with_unfolding_all rfl)) (ea_consR (f := D.bl) (x := (decide ((many + (1 : Int)) ∈ (((places).filter fun x4 => (decide (many ≤ x4))).map fun x4 => x4)))) (ev_cm (ev_add (ev_var (i := 0) rfl (.int _)) ev_int) (ev_var (i := 3) rfl h_sums) (cm_in (f := D.int) (x := (many + (1 : Int))) (xs := (((places).filter fun x4 => (decide (many ≤ x4))).map fun x4 => x4)) hr lw_int) (by with_unfolding_all rfl)) (ea_nilR (f := D.bl)))) (by simp [rg_len, enumT_len]; try omega)) ea_nil)) (⟨((((sortI places)).filter fun x1 => (decide (x1 < many))).map fun x1 => x1), ((decide (many ∈ (((places).filter fun x4 => (decide (many ≤ x4))).map fun x4 => x4))) :: ((decide ((many + (1 : Int)) ∈ (((places).filter fun x4 => (decide (many ≤ x4))).map fun x4 => x4))) :: ([] : List Bool))), (by exact jpre hpp), rfl, rfl⟩)) (eO_get (by exact hpj (by assumption))))) (fun (s11 : (List Int)) (x12 : (Int × Int)) => ((s11.set ((x12).1).toNat ((x12).2 % (9973 : Int))))) ((List.replicate (many).toNat ((0 : Int) :: ([] : List Int))).flatten) (fun i_ (s_ : (List Int)) σ_ F_ W_ => ∃ (o_place : Option V) (o_one : Option V) (vs_words : List V), σ_ = [some (.int many), some v_places, some v_inner, some v_sums, o_place, some (.ref l_words), o_one] ∧ Reps F_ vs_words ((s_).map D.int) ∧ (s_.length = many.toNat ∧ ∀ w ∈ s_, 0 ≤ w ∧ w < 9973) ∧ W_ = (upd W' l_words (.lst vs_words))) (fun F_ e_ => ?_) (fun i16 x12 hi17 hx14 s11 σ_ F_ W_ e_ J_ v_ F2_ e2_ r15 => ?_) (fun σ_ F_ W_ e_ J_ => ?_)
    · replace h_places := h_places.mono e_
      replace h_inner := h_inner.mono e_
      replace h_sums := h_sums.mono e_
      replace h_words := h_words.mono e_
      exact ⟨_, _, _, rfl, h_words, (by exact rep_in), rfl⟩
    · replace h_places := h_places.mono e_
      replace h_inner := h_inner.mono e_
      replace h_sums := h_sums.mono e_
      replace h_words := h_words.mono e_
      obtain ⟨o_place, o_one, vs_words, rfl, h_words, inv13, rfl⟩ := J_
      replace h_places := h_places.mono e2_
      replace h_inner := h_inner.mono e2_
      replace h_sums := h_sums.mono e2_
      replace h_words := h_words.mono e2_
      have hx14m := List.of_mem_zip hx14
      refine tg_tup (ds := [D.int ((x12).1), D.int ((x12).2)]) r15 (fun vs20 rr21 => ?_)
      cases rr21 with | @cons v_place _ _ _ h_place rr21 => ?_
      cases rr21 with | @cons v_one _ _ _ h_one rr21 => ?_
      cases rr21
      refine tgs_cons ?_
      cases h_place
      refine tg_name (i := 4) ?_
      refine tgs_cons ?_
      cases h_one
      refine tg_name (i := 6) ?_
      refine tgs_nil ?_
      refine bl_setLW (j := (x12).1) (j' := ((x12).1).toNat) (ev_mod (ev_bty T.int cl_int (ea_cons (ev_var (i := 6) rfl (.int _)) ea_nil) rfl) (ev_gI T.PRIME) (by first | decide | omega)) (ev_var (i := 5) rfl (.ow _)) (ev_var (i := 4) rfl (.int _)) upd_same (by have := jmem hpp hx14m.1; omega) (by rw [h_words.length, List.length_map]; have := jmem hpp hx14m.1; have := inv13.1; omega) (fun v22 F_ e23 hv_ => ?_)
      replace h_places := h_places.mono e23
      replace h_inner := h_inner.mono e23
      replace h_sums := h_sums.mono e23
      replace h_words := h_words.mono e23
      replace h_words := h_words.set ((x12).1).toNat hv_
      rw [show ∀ (l : List Int) (n : Nat) (y : Int), (l.map D.int).set n (D.int y) = (l.set n y).map D.int from fun l n y => (List.map_set ..).symm] at h_words
      rw [upd_upd]
      exact bl_nil ⟨_, _, _, rfl, h_words, (by exact set_in inv13 (mod_in _)), rfl⟩
    · replace h_places := h_places.mono e_
      replace h_inner := h_inner.mono e_
      replace h_sums := h_sums.mono e_
      replace h_words := h_words.mono e_
      obtain ⟨o_place, o_one, vs_words, rfl, h_words, inv13, rfl⟩ := J_
      refine bl_freeze (ds := (((((((((sortI places)).filter fun x1 => (decide (x1 < many))).map fun x1 => x1)).zip (((m_changes_of ((((sortI places)).filter fun x1 => (decide (x1 < many))).map fun x1 => x1) ((decide (many ∈ (((places).filter fun x4 => (decide (many ≤ x4))).map fun x4 => x4))) :: ((decide ((many + (1 : Int)) ∈ (((places).filter fun x4 => (decide (many ≤ x4))).map fun x4 => x4))) :: ([] : List Bool))))).getD []))).foldl (fun (s11 : (List Int)) (x12 : (Int × Int)) => ((s11.set ((x12).1).toNat ((x12).2 % (9973 : Int))))) ((List.replicate (many).toNat ((0 : Int) :: ([] : List Int))).flatten))).map D.int) upd_same h_words (by rw [List.length_map, inv13.1]; omega) (fun F_ e24 hf_words => ?_)
      rw [del_upd wn_words]
      replace h_places := h_places.mono e24
      replace h_inner := h_inner.mono e24
      replace h_sums := h_sums.mono e24
      replace h_words : Rep F_ (.ref l_words) (eR false D.int (((((((((sortI places)).filter fun x1 => (decide (x1 < many))).map fun x1 => x1)).zip (((m_changes_of ((((sortI places)).filter fun x1 => (decide (x1 < many))).map fun x1 => x1) ((decide (many ∈ (((places).filter fun x4 => (decide (many ≤ x4))).map fun x4 => x4))) :: ((decide ((many + (1 : Int)) ∈ (((places).filter fun x4 => (decide (many ≤ x4))).map fun x4 => x4))) :: ([] : List Bool))))).getD []))).foldl (fun (s11 : (List Int)) (x12 : (Int × Int)) => ((s11.set ((x12).1).toNat ((x12).2 % (9973 : Int))))) ((List.replicate (many).toNat ((0 : Int) :: ([] : List Int))).flatten)))) := hf_words
      exact bl_ret (ev_is (d1 := eV CN CH (some ((m_block_of (List.replicate (many).toNat ((0 : Int) :: ([] : List Int))).flatten), (m_block_of ((((((((sortI places)).filter fun x1 => (decide (x1 < many))).map fun x1 => x1)).zip (((m_changes_of ((((sortI places)).filter fun x1 => (decide (x1 < many))).map fun x1 => x1) ((decide (many ∈ (((places).filter fun x4 => (decide (many ≤ x4))).map fun x4 => x4))) :: ((decide ((many + (1 : Int)) ∈ (((places).filter fun x4 => (decide (many ≤ x4))).map fun x4 => x4))) :: ([] : List Bool))))).getD []))).foldl (fun (s11 : (List Int)) (x12 : (Int × Int)) => ((s11.set ((x12).1).toNat ((x12).2 % (9973 : Int))))) ((List.replicate (many).toNat ((0 : Int) :: ([] : List Int))).flatten)))))) (ev_make InH (hr.mono (by decide)) (ea_cons (ev_call C_block_of (hr.mono (by decide)) (ea_cons (ev_repR (ev_lstR ((0 : Int) :: ([] : List Int)) (ea_consR (f := D.int) (x := (0 : Int)) ev_int (ea_nilR (f := D.int))) (by simp [rg_len, enumT_len]; try omega)) (ev_var (i := 0) rfl (.int _)) (by omega) (by simp; omega) (by omega)) ea_nil) (⟨false, (List.replicate (many).toNat ((0 : Int) :: ([] : List Int))).flatten, (by exact ⟨by rw [rep_in.1]; omega, rep_in.2⟩), rfl, rfl⟩)) (ea_cons (ev_call C_block_of (hr.mono (by decide)) (ea_cons (ev_var (i := 5) rfl h_words) ea_nil) (⟨false, ((((((((sortI places)).filter fun x1 => (decide (x1 < many))).map fun x1 => x1)).zip (((m_changes_of ((((sortI places)).filter fun x1 => (decide (x1 < many))).map fun x1 => x1) ((decide (many ∈ (((places).filter fun x4 => (decide (many ≤ x4))).map fun x4 => x4))) :: ((decide ((many + (1 : Int)) ∈ (((places).filter fun x4 => (decide (many ≤ x4))).map fun x4 => x4))) :: ([] : List Bool))))).getD []))).foldl (fun (s11 : (List Int)) (x12 : (Int × Int)) => ((s11.set ((x12).1).toNat ((x12).2 % (9973 : Int))))) ((List.replicate (many).toNat ((0 : Int) :: ([] : List Int))).flatten)), (by exact ⟨by rw [inv13.1]; omega, inv13.2⟩), rfl, rfl⟩)) ea_nil)) ⟨_, _, (m_block_of (List.replicate (many).toNat ((0 : Int) :: ([] : List Int))).flatten), (m_block_of ((((((((sortI places)).filter fun x1 => (decide (x1 < many))).map fun x1 => x1)).zip (((m_changes_of ((((sortI places)).filter fun x1 => (decide (x1 < many))).map fun x1 => x1) ((decide (many ∈ (((places).filter fun x4 => (decide (many ≤ x4))).map fun x4 => x4))) :: ((decide ((many + (1 : Int)) ∈ (((places).filter fun x4 => (decide (many ≤ x4))).map fun x4 => x4))) :: ([] : List Bool))))).getD []))).foldl (fun (s11 : (List Int)) (x12 : (Int × Int)) => ((s11.set ((x12).1).toNat ((x12).2 % (9973 : Int))))) ((List.replicate (many).toNat ((0 : Int) :: ([] : List Int))).flatten))), rfl, rfl⟩) rfl) ⟨rfl, rfl⟩
structure Bo (P : Program) (w : World) (K : PySem.W.Frag) (mg : Str → Option Value) (base : Heap) (CN CH : Addr) : Prop where
  n : MeD P w K mg base 1 CN "__bool__" ["self"] (relP fun ds d => ds = [eN CN ()] ∧ d = .bl true)
  h : MeD P w K mg base 1 CH "__bool__" ["self"] (relP fun ds d => (∃ p, ds = [eH CH p]) ∧ d = .bl false)
theorem ev_boolV {X : Cx} {σ : L2.St} {F W W1 : Hp} {e : Expr} {p pos : Pos} {v : Option (List Int × List Int)} (Bf : Bo X.prog X.w X.K X.mg X.base CN CH) (hm : X.mg "bool" = none) (h : EvS X e σ F W (eV CN CH v) W1) (hr : Room 3 X.A) (hg : Gl X "bool" := by rfl)
    (he : starEach [e] X.env = (false, eval e X.env) :: starEach [] X.env := by rfl) : EvS X (.Call (.Name "bool" p) [e] [] pos) σ F W (.bl v.isNone) W1 := by
  cases v with
  | none => exact ev_boolO (C := CN) (fds := []) hm (ea_cons h ea_nil he) Bf.n hr (fun _ _ => ⟨⟨rfl, rfl⟩, rfl⟩) (by decide +kernel) hg he
  | some q => exact ev_boolO (C := CH) (fds := _) hm (ea_cons h ea_nil he) Bf.h hr (fun _ _ => ⟨⟨⟨q, rfl⟩, rfl⟩, rfl⟩) (by decide +kernel) hg he
theorem et_V {X : Cx} {σ : L2.St} {F W W1 : Hp} {e : Expr} {v : Option (List Int × List Int)} (Bf : Bo X.prog X.w X.K X.mg X.base CN CH) (h : EvS X e σ F W (eV CN CH v) W1) (hr : Room 1 X.A)
    (he : ∀ whole, isTrue e X.env whole = (do let v ← whole; standAt e.pos; holding [v] (truthy v)) := by intro _; rfl) : EvT X e σ F W v.isNone W1 := by
  cases v with
  | none => exact et_obj (C := CN) (fds := []) h Bf.n hr (fun _ _ => ⟨⟨rfl, rfl⟩, rfl⟩) he
  | some q => exact et_obj (C := CH) (fds := _) h Bf.h hr (fun _ _ => ⟨⟨⟨q, rfl⟩, rfl⟩, rfl⟩) he
def m_Noticed_bool (self : Unit) : Bool := true
def r_Noticed_bool (CN : Addr) : List D → D → Prop := fun ds d => ∃ (self : Unit), ds = [(eN CN) self] ∧ d = D.bl (m_Noticed_bool self)
abbrev s13x0 : Stmt := clsS (topS 13) 0
abbrev N13x0 : List Str := ["self"]
theorem sc13x0 : FnScope N13x0 ["self"] (defScope s13x0) := ⟨rfl, rfl, rfl, by decide +kernel, rfl, by decide +kernel, by decide +kernel⟩
theorem d_Noticed_bool (T : Txt K mg)  {f : Addr} {fd : FuncData} (Fu : Fun K "__bool__" "Noticed.__bool__" s13x0 f fd) : FnOk P w K mg base CX0 1 f fd ["self"] (spG (relP (r_Noticed_bool CN))) := by
  refine fn_ok Fu sc13x0 (fun ds F W d W' h => by obtain ⟨⟨_, rfl, _⟩, _⟩ := h; rfl) (fun cdv A outer s H E hr ds W d W' vs F h hv => ?_)
  have nd_ := sc13x0.nd
  obtain ⟨⟨self, rfl, rfl⟩, rfl⟩ := h
  cases hv with | @cons v_self _ _ _ h_self hv => ?_
  cases hv
  exact bl_ret ev_bl ⟨rfl, rfl⟩
def m_Noticed_eq (self : Unit) (other : Unit) : Bool := true
def r_Noticed_eq (CN : Addr) : List D → D → Prop := fun ds d => ∃ (self : Unit) (other : Unit), ds = [(eN CN) self, (eN CN) other] ∧ d = D.bl (m_Noticed_eq self other)
abbrev s13x1 : Stmt := clsS (topS 13) 1
abbrev N13x1 : List Str := ["self", "other"]
theorem sc13x1 : FnScope N13x1 ["self", "other"] (defScope s13x1) := ⟨rfl, rfl, rfl, by decide +kernel, rfl, by decide +kernel, by decide +kernel⟩
theorem d_Noticed_eq (T : Txt K mg)  (Y : Cl K mg CN CH)  {f : Addr} {fd : FuncData} (Fu : Fun K "__eq__" "Noticed.__eq__" s13x1 f fd) : FnOk P w K mg base CX0 1 f fd ["self", "other"] (spG (relP (r_Noticed_eq CN))) := by
  refine fn_ok Fu sc13x1 (fun ds F W d W' h => by obtain ⟨⟨_, _, rfl, _⟩, _⟩ := h; rfl) (fun cdv A outer s H E hr ds W d W' vs F h hv => ?_)
  have nd_ := sc13x1.nd
  obtain ⟨⟨self, other, rfl, rfl⟩, rfl⟩ := h
  cases hv with | @cons v_self _ _ _ h_self hv => ?_
  cases hv with | @cons v_other _ _ _ h_other hv => ?_
  cases hv
  exact bl_ret (ev_isiO T.isinstance Y.gn (ev_var (i := 1) rfl h_other) Y.n Y.isn) ⟨rfl, rfl⟩
def m_Noticed_shows (self : Unit) (many : Int) (places : (List Int)) : Bool := ((m_judge_noticed (many) (places))).isNone
def r_Noticed_shows (CN : Addr) : List D → D → Prop := fun ds d => ∃ (t : Bool) (self : Unit) (many : Int) (places : (List Int)), (JOk many places) ∧ ds = [(eN CN) self, D.int many, (eR t D.int) places] ∧ d = D.bl (m_Noticed_shows self many places)
abbrev s13x2 : Stmt := clsS (topS 13) 2
abbrev N13x2 : List Str := ["self", "many", "places"]
theorem sc13x2 : FnScope N13x2 ["self", "many", "places"] (defScope s13x2) := ⟨rfl, rfl, rfl, by decide +kernel, rfl, by decide +kernel, by decide +kernel⟩
theorem d_Noticed_shows (T : Txt K mg) (C_judge_noticed : FnD P w K mg base 4 "judge_noticed" ["many", "places"] (relP (r_judge_noticed CN CH))) (Y : Cl K mg CN CH)  (Bf : Bo P w K mg base CN CH)  {f : Addr} {fd : FuncData} (Fu : Fun K "shows" "Noticed.shows" s13x2 f fd) : FnOk P w K mg base CX0 5 f fd ["self", "many", "places"] (spG (relP (r_Noticed_shows CN))) := by
  refine fn_ok Fu sc13x2 (fun ds F W d W' h => by obtain ⟨⟨_, _, _, _, _, rfl, _⟩, _⟩ := h; rfl) (fun cdv A outer s H E hr ds W d W' vs F h hv => ?_)
  have nd_ := sc13x2.nd
  obtain ⟨⟨t, self, many, places, hp_, rfl, rfl⟩, rfl⟩ := h
  cases hv with | @cons v_self _ _ _ h_self hv => ?_
  cases hv with | @cons v_many _ _ _ h_many hv => ?_
  cases hv with | @cons v_places _ _ _ h_places hv => ?_
  cases hv
  cases h_many
  have hl_places := rep_len h_places
  exact bl_ret (ev_boolV Bf T.bool (ev_call C_judge_noticed (hr.mono (by decide)) (ea_cons (ev_var (i := 1) rfl (.int _)) (ea_cons (ev_var (i := 2) rfl h_places) ea_nil)) (⟨t, (many), (places), (by first | assumption | exact hp_.1 | omega), rfl, rfl⟩)) (hr.mono (by decide))) ⟨rfl, rfl⟩
def m_Hidden_bool (self : (List Int × List Int)) : Bool := false
def r_Hidden_bool (CH : Addr) : List D → D → Prop := fun ds d => ∃ (self : (List Int × List Int)), ds = [(eH CH) self] ∧ d = D.bl (m_Hidden_bool self)
abbrev s14x1 : Stmt := clsS (topS 14) 1
abbrev N14x1 : List Str := ["self"]
theorem sc14x1 : FnScope N14x1 ["self"] (defScope s14x1) := ⟨rfl, rfl, rfl, by decide +kernel, rfl, by decide +kernel, by decide +kernel⟩
theorem d_Hidden_bool (T : Txt K mg)  {f : Addr} {fd : FuncData} (Fu : Fun K "__bool__" "Hidden.__bool__" s14x1 f fd) : FnOk P w K mg base CX0 1 f fd ["self"] (spG (relP (r_Hidden_bool CH))) := by
  refine fn_ok Fu sc14x1 (fun ds F W d W' h => by obtain ⟨⟨_, rfl, _⟩, _⟩ := h; rfl) (fun cdv A outer s H E hr ds W d W' vs F h hv => ?_)
  have nd_ := sc14x1.nd
  obtain ⟨⟨self, rfl, rfl⟩, rfl⟩ := h
  cases hv with | @cons v_self _ _ _ h_self hv => ?_
  cases hv
  exact bl_ret ev_bl ⟨rfl, rfl⟩
def m_Hidden_shows (self : (List Int × List Int)) (many : Int) (places : (List Int)) : Bool := (if (((m_words_in (self).1)).isNone || (((m_words_in (self).2)).isNone || (!decide ((((self).1).length : Int) = (many + (2 : Int)))))) = true then false else (if (!decide ((((self).2).length : Int) = (many + (2 : Int)))) = true then false else (decide (((((rg 0 (many + (2 : Int)))).filter fun x5 => (!decide ((ixI 0 (self).1 x5) = (ixI 0 (self).2 x5)))).map fun x5 => x5) = (sortI places)))))
def r_Hidden_shows (CH : Addr) : List D → D → Prop := fun ds d => ∃ (t : Bool) (self : (List Int × List Int)) (many : Int) (places : (List Int)), (Pls many places) ∧ ds = [(eH CH) self, D.int many, (eR t D.int) places] ∧ d = D.bl (m_Hidden_shows self many places)
abbrev s14x3 : Stmt := clsS (topS 14) 3
abbrev N14x3 : List Str := ["self", "many", "places", "at"]
theorem sc14x3 : FnScope N14x3 ["self", "many", "places"] (defScope s14x3) := ⟨rfl, rfl, rfl, by decide +kernel, rfl, by decide +kernel, by decide +kernel⟩
theorem d_Hidden_shows (T : Txt K mg) (C_words_in : FnD P w K mg base 2 "words_in" ["block"] (relP r_words_in)) (C_check_places : FnD P w K mg base 2 "check_places" ["many", "places"] (relP r_check_places)) (Y : Cl K mg CN CH)  {f : Addr} {fd : FuncData} (Fu : Fun K "shows" "Hidden.shows" s14x3 f fd) : FnOk P w K mg base CX0 3 f fd ["self", "many", "places"] (spG (relP (r_Hidden_shows CH))) := by
  refine fn_ok Fu sc14x3 (fun ds F W d W' h => by obtain ⟨⟨_, _, _, _, _, rfl, _⟩, _⟩ := h; rfl) (fun cdv A outer s H E hr ds W d W' vs F h hv => ?_)
  have nd_ := sc14x3.nd
  obtain ⟨⟨t, self, many, places, hp_, rfl, rfl⟩, rfl⟩ := h
  cases hv with | @cons v_self _ _ _ h_self hv => ?_
  cases hv with | @cons v_many _ _ _ h_many hv => ?_
  cases hv with | @cons v_places _ _ _ h_places hv => ?_
  cases hv
  cases h_many
  have hl_places := rep_len h_places
  obtain ⟨hp1, hp2, hp3, hp4, hp5⟩ := id hp_
  refine bl_expr (ev_call C_check_places (hr.mono (by decide)) (ea_cons (ev_var (i := 1) rfl (.int _)) (ea_cons (ev_var (i := 2) rfl h_places) ea_nil)) (⟨t, (many), (places), (by first | assumption | exact hp_.1 | omega), rfl, rfl⟩)) ?_
  refine bl_whenR (q := (((m_words_in (self).1)).isNone || (((m_words_in (self).2)).isNone || (!decide ((((self).1).length : Int) = (many + (2 : Int))))))) (f := D.bl) (x := false) (y := (if (!decide ((((self).2).length : Int) = (many + (2 : Int)))) = true then false else (decide (((((rg 0 (many + (2 : Int)))).filter fun x5 => (!decide ((ixI 0 (self).1 x5) = (ixI 0 (self).2 x5)))).map fun x5 => x5) = (sortI places))))) (et_w (ew_or (et_cm (ev_call C_words_in (hr.mono (by decide)) (ea_cons (ev_fld (ev_var (i := 0) rfl h_self) Y.h.cls Y.one rfl) ea_nil) (.inr ⟨true, (self).1, rfl, rfl⟩)) ev_non (cm_isO (f := (eR true D.int)) (x := (m_words_in (self).1)) (fun _ => rfl))) (fun hb1 => (ew_or (et_cm (ev_call C_words_in (hr.mono (by decide)) (ea_cons (ev_fld (ev_var (i := 0) rfl h_self) Y.h.cls Y.other rfl) ea_nil) (.inr ⟨true, (self).2, rfl, rfl⟩)) ev_non (cm_isO (f := (eR true D.int)) (x := (m_words_in (self).2)) (fun _ => rfl))) (fun hb2 => (ew_or1 (et_cm (ev_blt T.len cl_lenR (ea_cons (ev_fld (ev_var (i := 0) rfl h_self) Y.h.cls Y.one rfl) ea_nil) rfl) (ev_add (ev_var (i := 1) rfl (.int _)) ev_int) (cm_ne (f := D.int) (x := (((self).1).length : Int)) (y := (many + (2 : Int))) hr lw_int)))))))) (fun hq3 => ?_) (fun hq3 => ?_)
  · exact bl_ret ev_bl ⟨rfl, rfl⟩
  · refine bl_whenR (q := (!decide ((((self).2).length : Int) = (many + (2 : Int))))) (f := D.bl) (x := false) (y := (decide (((((rg 0 (many + (2 : Int)))).filter fun x5 => (!decide ((ixI 0 (self).1 x5) = (ixI 0 (self).2 x5)))).map fun x5 => x5) = (sortI places)))) (et_cm (ev_blt T.len cl_lenR (ea_cons (ev_fld (ev_var (i := 0) rfl h_self) Y.h.cls Y.other rfl) ea_nil) rfl) (ev_add (ev_var (i := 1) rfl (.int _)) ev_int) (cm_ne (f := D.int) (x := (((self).2).length : Int)) (y := (many + (2 : Int))) hr lw_int)) (fun hq4 => ?_) (fun hq4 => ?_)
    · exact bl_ret ev_bl ⟨rfl, rfl⟩
    · exact bl_ret (ev_cm (ev_ofLc (lc_F (own := [("at", 3)]) (f := D.int) (g := D.int) (fun x5 => (!decide ((ixI 0 (self).1 x5) = (ixI 0 (self).2 x5)))) (fun x5 => x5) (ei_range1 T.range (ea_cons (ev_add (ev_var (i := 1) rfl (.int _)) ev_int) ea_nil) (by omega) (by omega)) (by first | assumption | omega | (simp only [List.length_map, enumT_len, rg_len]; omega) | (simp; done) | (simp; omega)) (fun x5 hx6 v_ F1_ e_ r7 => by
      replace h_self := h_self.mono e_
      replace h_places := h_places.mono e_
      have hx6m := rg_mem.mp hx6
      intro s_ H0_ C_ cl_ fp_
      cases r7
      refine tg_name (i := 3) ?_
      refine ⟨rfl, fun s_ H0_ C_ cl_ fp_ => ?_, fun ht_ s_ H0_ C_ cl_ fp_ => ?_⟩
      · exact ets_one (et_cm (ev_ix (ev_fld (ev_var (i := 0) rfl h_self) Y.h.cls Y.one rfl) (ev_var (i := 3) rfl (.int _)) (ixI_at (d := 0) (by simp only [Bool.or_eq_false_iff, Bool.not_eq_false', decide_eq_true_eq] at hq3 hq4; have := hq3.2.2; omega))) (ev_ix (ev_fld (ev_var (i := 0) rfl h_self) Y.h.cls Y.other rfl) (ev_var (i := 3) rfl (.int _)) (ixI_at (d := 0) (by simp only [Bool.not_eq_false', decide_eq_true_eq] at hq4; omega))) (cm_ne (f := D.int) (x := (ixI 0 (self).1 x5)) (y := (ixI 0 (self).2 x5)) hr lw_int))
      · exact (ev_var (i := 3) rfl (.int _)))) (ok := blkOk_by (N := N14x3) (sc := defScope s14x3) (by decide +kernel))) (ev_blt T.sorted cl_sortedB (ea_cons (ev_var (i := 2) rfl h_places) ea_nil) rfl) (cm_eq (f := (eR false D.int)) (x := ((((rg 0 (many + (2 : Int)))).filter fun x5 => (!decide ((ixI 0 (self).1 x5) = (ixI 0 (self).2 x5)))).map fun x5 => x5)) (y := (sortI places)) hr (Lw.row lw_int))) ⟨rfl, rfl⟩
end
end B
set_option Elab.async false
set_option linter.all false
set_option maxRecDepth 100000
set_option maxHeartbeats 4000000
namespace B
open PySem PySem.Spec PyProof.Rows L2 Z
def subs : List Int → List (List Int)
  | [] => [[]]
  | x :: xs => subs xs ++ (subs xs).map fun s => x :: s
def okc (inner : List Int) (a b : Bool) : Bool := decide (inner.length + a.toNat + b.toNat < 3) || inner.isEmpty || (match m_changes_of inner [a, b] with
  | none => false
  | some row => row.length == inner.length)
def okp (pre : List Int) : Bool := (subs [3, 4, 5, 6, 7]).all fun s => okc (pre ++ s) true true && okc (pre ++ s) true false && okc (pre ++ s) false true && okc (pre ++ s) false false
theorem br0 : okp [] = true := by decide +kernel
theorem br1 : okp [0] = true := by decide +kernel
theorem br2 : okp [1] = true := by decide +kernel
theorem br3 : okp [2] = true := by decide +kernel
theorem br4 : okp [0, 1] = true := by decide +kernel
theorem br5 : okp [0, 2] = true := by decide +kernel
theorem br6 : okp [1, 2] = true := by decide +kernel
theorem br7 : okp [0, 1, 2] = true := by decide +kernel
end B
set_option Elab.async false
set_option linter.all false
set_option maxRecDepth 100000
set_option maxHeartbeats 1000000
namespace B
open PySem PySem.Spec PyProof.Rows L2 Z
def eZ (K : PySem.W.Frag) (xs : List Int) : D := .fz K (xs.map D.int)
section
variable {X : Cx} {F W W1 W2 : Hp} {σ : L2.St} {a b : Expr} {pos : Pos} {xs : List Int} {i : Int} {k : Nat}
theorem cl_lenZR : CalR X (.builtin "len") F W [eZ X.K xs] (.int xs.length) := (cl_lenZ (ds := xs.map D.int)).is (by rw [List.length_map])
theorem ev_ixZR (ha : EvS X a σ F W (eZ X.K xs) W1) (hb : EvS X b σ F W1 (.int i) W2) (h : -(xs.length : Int) ≤ i ∧ i < xs.length) (hs : ∀ v i, subscripted b false v i = operate [v, i] (getItem v i) := by intro _ _; rfl) : EvS X (.Subscript a b pos) σ F W (.int (ixI 0 xs i)) W2 :=
  ev_ixZ ha hb (atI_map (f := D.int) (ixI_at h)) hs
theorem cm_neZ (hr : Room k X.A) : CmpR X .NotEq F W (eZ X.K xs) (eR false D.int []) (!decide (xs = [])) := CmpR.is (k := !(eR false D.int xs).eqv (eR false D.int [])) ⟨_, op_neP hr, fun v1 v2 F1 H1 _ r1 r2 w Q k => ⟨_, _, r1.fz_dp w ((lw_int.row (t := false)).pl xs), r2.dp w rfl, D.pl_plain _ ((lw_int.row (t := false)).pl xs), D.pl_plain (eR false D.int []) rfl, Nat.le_trans ((lw_int.row (t := false)).dep xs) (by decide), k _ F1 H1 (Go.refl w) (.bl _)⟩⟩ (congrArg not ((lw_int.row (t := false)).eq xs []))
end
section
variable {P : Program} {w : World} {K : PySem.W.Frag} {mg : Str → Option Value} {base : Heap} {CN CH : Addr}

def m__law_number (script : (List Int)) (index : Int) : Int := (if (decide ((0 : Int) < (((rg 0 (((if (!decide (script = [])) = true then ((ixI 0 script (index % ((script).length : Int))), (index / ((script).length : Int))) else ((12345 : Int), (0 : Int)))).2 % (60 : Int)))).foldl (fun (s11 : Int) (x12 : Int) => ((s11 / (1009 : Int)))) ((if (decide (((if (!decide (script = [])) = true then ((ixI 0 script (index % ((script).length : Int))), (index / ((script).length : Int))) else ((12345 : Int), (0 : Int)))).2 < (60 : Int))) = true then (((if (!decide (script = [])) = true then ((ixI 0 script (index % ((script).length : Int))), (index / ((script).length : Int))) else ((12345 : Int), (0 : Int)))).1 - ((10 : Int) ^ ((18 : Int)).toNat)) else (0 : Int)))))) = true then ((((rg 0 (((if (!decide (script = [])) = true then ((ixI 0 script (index % ((script).length : Int))), (index / ((script).length : Int))) else ((12345 : Int), (0 : Int)))).2 % (60 : Int)))).foldl (fun (s11 : Int) (x12 : Int) => ((s11 / (1009 : Int)))) ((if (decide (((if (!decide (script = [])) = true then ((ixI 0 script (index % ((script).length : Int))), (index / ((script).length : Int))) else ((12345 : Int), (0 : Int)))).2 < (60 : Int))) = true then (((if (!decide (script = [])) = true then ((ixI 0 script (index % ((script).length : Int))), (index / ((script).length : Int))) else ((12345 : Int), (0 : Int)))).1 - ((10 : Int) ^ ((18 : Int)).toNat)) else (0 : Int)))) % (1009 : Int)) else ((((((((((((if (!decide (script = [])) = true then ((ixI 0 script (index % ((script).length : Int))), (index / ((script).length : Int))) else ((12345 : Int), (0 : Int)))).1 + ((977 : Int) * index)) * (48271 : Int)) + ((31 : Int) * ((script).length : Int))) % (2147483647 : Int)) * ((((((if (!decide (script = [])) = true then ((ixI 0 script (index % ((script).length : Int))), (index / ((script).length : Int))) else ((12345 : Int), (0 : Int)))).1 + ((977 : Int) * index)) * (48271 : Int)) + ((31 : Int) * ((script).length : Int))) % (2147483647 : Int))) + ((40503 : Int) * index)) % (2147483629 : Int)) * (69621 : Int)) + ((((((((((if (!decide (script = [])) = true then ((ixI 0 script (index % ((script).length : Int))), (index / ((script).length : Int))) else ((12345 : Int), (0 : Int)))).1 + ((977 : Int) * index)) * (48271 : Int)) + ((31 : Int) * ((script).length : Int))) % (2147483647 : Int)) * ((((((if (!decide (script = [])) = true then ((ixI 0 script (index % ((script).length : Int))), (index / ((script).length : Int))) else ((12345 : Int), (0 : Int)))).1 + ((977 : Int) * index)) * (48271 : Int)) + ((31 : Int) * ((script).length : Int))) % (2147483647 : Int))) + ((40503 : Int) * index)) % (2147483629 : Int)) / (977 : Int))) % (2147483587 : Int)))
def r__law_number (K : PySem.W.Frag) : List D → D → Prop := fun ds d => ∃ (script : (List Int)) (index : Int), (0 ≤ index ∧ script.length ≤ 63) ∧ ds = [(eZ K) script, D.int index] ∧ d = D.int (m__law_number script index)
abbrev s23 : Stmt := topS 23
abbrev N23 : List Str := ["script", "index", "cell", "turn", "rest", "step", "blend"]
theorem sc23 : FnScope N23 ["script", "index"] (defScope s23) := ⟨rfl, rfl, rfl, by decide +kernel, rfl, by decide +kernel, by decide +kernel⟩
theorem d__law_number (T : Txt K mg)  {f : Addr} {fd : FuncData} (Fu : Fun K "_law_number" "_law_number" s23 f fd) : FnOk P w K mg base CX0 1 f fd ["script", "index"] (spG (relP (r__law_number K))) := by
  refine fn_ok Fu sc23 (fun ds F W d W' h => by obtain ⟨⟨_, _, _, rfl, _⟩, _⟩ := h; rfl) (fun cdv A outer s H E hr ds W d W' vs F h hv => ?_)
  have nd_ := sc23.nd
  obtain ⟨⟨script, index, hp_, rfl, rfl⟩, rfl⟩ := h
  cases hv with | @cons v_script _ _ _ h_script hv => ?_
  cases hv with | @cons v_index _ _ _ h_index hv => ?_
  cases hv
  cases h_index
  obtain ⟨hp1, hp2⟩ := hp_
  refine bl_asgT (ev_if (f := (eP D.int D.int)) (x := ((ixI 0 script (index % ((script).length : Int))), (index / ((script).length : Int)))) (y := ((12345 : Int), (0 : Int))) (et_cm (ev_var (i := 0) rfl h_script) (ev_lstR (f := D.int) [] ea_nilR (by decide)) (cm_neZ hr)) (fun hi1 => (ev_is (d1 := (eP D.int D.int) ((ixI 0 script (index % ((script).length : Int))), (index / ((script).length : Int)))) (ev_tup (ea_cons (ev_ixZR (ev_var (i := 0) rfl h_script) (ev_mod (ev_var (i := 1) rfl (.int _)) (ev_blt T.len cl_lenZR (ea_cons (ev_var (i := 0) rfl h_script) ea_nil) rfl) (by have h1 : 0 < script.length := List.length_pos_iff.mpr (by simpa using hi1); omega)) (by have h1 : 0 < script.length := List.length_pos_iff.mpr (by simpa using hi1); exact ⟨by have := Int.emod_nonneg index (show (script.length : Int) ≠ 0 by omega); omega, Int.emod_lt_of_pos _ (by omega)⟩)) (ea_cons (ev_div (ev_var (i := 1) rfl (.int _)) (ev_blt T.len cl_lenZR (ea_cons (ev_var (i := 0) rfl h_script) ea_nil) rfl) (by have h1 : 0 < script.length := List.length_pos_iff.mpr (by simpa using hi1); exact ⟨by omega, by omega⟩)) ea_nil)) (by simp)) rfl)) (fun hi2 => (ev_is (d1 := (eP D.int D.int) ((12345 : Int), (0 : Int))) (ev_tup (ea_cons ev_int (ea_cons ev_int ea_nil)) (by simp)) rfl))) (fun v_ F_ e4 r3 => ?_)
  replace h_script := h_script.mono e4
  refine tg_tup (ds := [D.int (((if (!decide (script = [])) = true then ((ixI 0 script (index % ((script).length : Int))), (index / ((script).length : Int))) else ((12345 : Int), (0 : Int)))).1), D.int (((if (!decide (script = [])) = true then ((ixI 0 script (index % ((script).length : Int))), (index / ((script).length : Int))) else ((12345 : Int), (0 : Int)))).2)]) r3 (fun vs7 rr8 => ?_)
  cases rr8 with | @cons v_cell _ _ _ h_cell rr8 => ?_
  cases rr8 with | @cons v_turn _ _ _ h_turn rr8 => ?_
  cases rr8
  refine tgs_cons ?_
  cases h_cell
  refine tg_name (i := 2) ?_
  refine tgs_cons ?_
  cases h_turn
  refine tg_name (i := 3) ?_
  refine tgs_nil ?_
  refine bl_asgF (i := 4) (ev_if (f := D.int) (x := (((if (!decide (script = [])) = true then ((ixI 0 script (index % ((script).length : Int))), (index / ((script).length : Int))) else ((12345 : Int), (0 : Int)))).1 - ((10 : Int) ^ ((18 : Int)).toNat))) (y := (0 : Int)) (et_cm (ev_var (i := 3) rfl (.int _)) ev_int cm_lt) (fun hi9 => (ev_sub (ev_var (i := 2) rfl (.int _)) (ev_pow ev_int ev_int (by exact ⟨by decide, by decide, by decide⟩)))) (fun hi10 => ev_int)) (.int _) ?_
  refine bl_forI (xs := (rg 0 (((if (!decide (script = [])) = true then ((ixI 0 script (index % ((script).length : Int))), (index / ((script).length : Int))) else ((12345 : Int), (0 : Int)))).2 % (60 : Int)))) (f := D.int) (ei_range1 T.range (ea_cons (ev_mod (ev_bty T.int cl_int (ea_cons (ev_var (i := 3) rfl (.int _)) ea_nil) rfl) ev_int (by first | decide | omega)) ea_nil) (by omega) (by omega)) (fun (s11 : Int) (x12 : Int) => ((s11 / (1009 : Int)))) ((if (decide (((if (!decide (script = [])) = true then ((ixI 0 script (index % ((script).length : Int))), (index / ((script).length : Int))) else ((12345 : Int), (0 : Int)))).2 < (60 : Int))) = true then (((if (!decide (script = [])) = true then ((ixI 0 script (index % ((script).length : Int))), (index / ((script).length : Int))) else ((12345 : Int), (0 : Int)))).1 - ((10 : Int) ^ ((18 : Int)).toNat)) else (0 : Int))) (fun i_ (s_ : Int) σ_ F_ W_ => ∃ (o_step : Option V), σ_ = [some v_script, some (.int index), some (.int ((if (!decide (script = [])) = true then ((ixI 0 script (index % ((script).length : Int))), (index / ((script).length : Int))) else ((12345 : Int), (0 : Int)))).1), some (.int ((if (!decide (script = [])) = true then ((ixI 0 script (index % ((script).length : Int))), (index / ((script).length : Int))) else ((12345 : Int), (0 : Int)))).2), some (.int s_), o_step, none] ∧ W_ = W') (fun F_ e_ => ?_) (fun i16 x12 hi17 hx14 s11 σ_ F_ W_ e_ J_ v_ F2_ e2_ r15 => ?_) (fun σ_ F_ W_ e_ J_ => ?_)
  · replace h_script := h_script.mono e_
    exact ⟨_, rfl, rfl⟩
  · replace h_script := h_script.mono e_
    obtain ⟨o_step, rfl, rfl⟩ := J_
    replace h_script := h_script.mono e2_
    have hx14m := rg_mem.mp hx14
    cases r15
    refine tg_name (i := 5) ?_
    refine bl_asgF (i := 4) (ev_div (ev_var (i := 4) rfl (.int _)) ev_int (by first | exact ⟨by decide, by decide⟩ | exact ⟨by omega, by omega⟩)) (.int _) ?_
    exact bl_nil ⟨_, rfl, rfl⟩
  · replace h_script := h_script.mono e_
    obtain ⟨o_step, rfl, rfl⟩ := J_
    refine bl_whenR (q := (decide ((0 : Int) < (((rg 0 (((if (!decide (script = [])) = true then ((ixI 0 script (index % ((script).length : Int))), (index / ((script).length : Int))) else ((12345 : Int), (0 : Int)))).2 % (60 : Int)))).foldl (fun (s11 : Int) (x12 : Int) => ((s11 / (1009 : Int)))) ((if (decide (((if (!decide (script = [])) = true then ((ixI 0 script (index % ((script).length : Int))), (index / ((script).length : Int))) else ((12345 : Int), (0 : Int)))).2 < (60 : Int))) = true then (((if (!decide (script = [])) = true then ((ixI 0 script (index % ((script).length : Int))), (index / ((script).length : Int))) else ((12345 : Int), (0 : Int)))).1 - ((10 : Int) ^ ((18 : Int)).toNat)) else (0 : Int))))))) (f := D.int) (x := ((((rg 0 (((if (!decide (script = [])) = true then ((ixI 0 script (index % ((script).length : Int))), (index / ((script).length : Int))) else ((12345 : Int), (0 : Int)))).2 % (60 : Int)))).foldl (fun (s11 : Int) (x12 : Int) => ((s11 / (1009 : Int)))) ((if (decide (((if (!decide (script = [])) = true then ((ixI 0 script (index % ((script).length : Int))), (index / ((script).length : Int))) else ((12345 : Int), (0 : Int)))).2 < (60 : Int))) = true then (((if (!decide (script = [])) = true then ((ixI 0 script (index % ((script).length : Int))), (index / ((script).length : Int))) else ((12345 : Int), (0 : Int)))).1 - ((10 : Int) ^ ((18 : Int)).toNat)) else (0 : Int)))) % (1009 : Int))) (y := ((((((((((((if (!decide (script = [])) = true then ((ixI 0 script (index % ((script).length : Int))), (index / ((script).length : Int))) else ((12345 : Int), (0 : Int)))).1 + ((977 : Int) * index)) * (48271 : Int)) + ((31 : Int) * ((script).length : Int))) % (2147483647 : Int)) * ((((((if (!decide (script = [])) = true then ((ixI 0 script (index % ((script).length : Int))), (index / ((script).length : Int))) else ((12345 : Int), (0 : Int)))).1 + ((977 : Int) * index)) * (48271 : Int)) + ((31 : Int) * ((script).length : Int))) % (2147483647 : Int))) + ((40503 : Int) * index)) % (2147483629 : Int)) * (69621 : Int)) + ((((((((((if (!decide (script = [])) = true then ((ixI 0 script (index % ((script).length : Int))), (index / ((script).length : Int))) else ((12345 : Int), (0 : Int)))).1 + ((977 : Int) * index)) * (48271 : Int)) + ((31 : Int) * ((script).length : Int))) % (2147483647 : Int)) * ((((((if (!decide (script = [])) = true then ((ixI 0 script (index % ((script).length : Int))), (index / ((script).length : Int))) else ((12345 : Int), (0 : Int)))).1 + ((977 : Int) * index)) * (48271 : Int)) + ((31 : Int) * ((script).length : Int))) % (2147483647 : Int))) + ((40503 : Int) * index)) % (2147483629 : Int)) / (977 : Int))) % (2147483587 : Int))) (et_cm (ev_var (i := 4) rfl (.int _)) ev_int cm_gt) (fun hq18 => ?_) (fun hq18 => ?_)
    · exact bl_ret (ev_mod (ev_bty T.int cl_int (ea_cons (ev_var (i := 4) rfl (.int _)) ea_nil) rfl) ev_int (by first | decide | omega)) ⟨rfl, rfl⟩
    · refine bl_asgF (i := 6) (ev_mod (ev_add (ev_mul (ev_bty T.int cl_int (ea_cons (ev_add (ev_var (i := 2) rfl (.int _)) (ev_mul ev_int (ev_var (i := 1) rfl (.int _)) (by first | exact Or.inl ⟨by omega, by omega⟩ | exact Or.inr ⟨by omega, by omega⟩))) ea_nil) rfl) ev_int (by first | exact Or.inl ⟨by omega, by omega⟩ | exact Or.inr ⟨by omega, by omega⟩)) (ev_mul ev_int (ev_blt T.len cl_lenZR (ea_cons (ev_var (i := 0) rfl h_script) ea_nil) rfl) (by first | exact Or.inl ⟨by omega, by omega⟩ | exact Or.inr ⟨by omega, by omega⟩))) ev_int (by first | decide | omega)) (.int _) ?_
      refine bl_asgF (i := 6) (ev_mod (ev_add (ev_mul (ev_var (i := 6) rfl (.int _)) (ev_var (i := 6) rfl (.int _)) (by first | exact Or.inl ⟨by omega, by omega⟩ | exact Or.inr ⟨by omega, by omega⟩)) (ev_mul ev_int (ev_var (i := 1) rfl (.int _)) (by first | exact Or.inl ⟨by omega, by omega⟩ | exact Or.inr ⟨by omega, by omega⟩))) ev_int (by first | decide | omega)) (.int _) ?_
      exact bl_ret (ev_bty T.int cl_int (ea_cons (ev_mod (ev_add (ev_mul (ev_var (i := 6) rfl (.int _)) ev_int (by first | exact Or.inl ⟨by omega, by omega⟩ | exact Or.inr ⟨by omega, by omega⟩)) (ev_div (ev_var (i := 6) rfl (.int _)) ev_int (by first | exact ⟨by decide, by decide⟩ | exact ⟨by omega, by omega⟩))) ev_int (by first | decide | omega)) ea_nil) rfl) ⟨rfl, rfl⟩
def tk (ns : List Int) (k : Nat) (many : Int) : Int := m__law_number ns ((k : Int) + 1) % many
theorem tk_in (ns : List Int) (k : Nat) {many : Int} (h : 0 < many) : 0 ≤ tk ns k many ∧ tk ns k many < many := ⟨Int.emod_nonneg _ (by omega), Int.emod_lt_of_pos _ h⟩
def r_take (K : PySem.W.Frag) : Rel := fun ds F W d W' => ∃ (dl sa : Addr) (ns : List Int) (k : Nat) (many : Int), ds = [.ow dl, .int many] ∧ (0 < many ∧ ns.length ≤ 63) ∧ W dl = some (.lst [.ref sa, .int k]) ∧ Rep F (.ref sa) (eZ K ns) ∧ d = .int (tk ns k many) ∧ W' = upd W dl (.lst [.ref sa, .int ((k : Int) + 1)])
abbrev s24 : Stmt := topS 24
theorem sc24 : FnScope ["draw", "many"] ["draw", "many"] (defScope s24) := ⟨rfl, rfl, rfl, by decide +kernel, rfl, by decide +kernel, by decide +kernel⟩
theorem d_take (T : Txt K mg) (C__law_number : FnD P w K mg base 1 "_law_number" ["script", "index"] (relP (r__law_number K))) {f : Addr} {fd : FuncData} (Fu : Fun K "_law_take" "_law_take" s24 f fd) : FnOk P w K mg base CX0 2 f fd ["draw", "many"] (spG (r_take K)) := by
  refine fn_ok Fu sc24 (fun ds F W d W' h => by obtain ⟨_, _, _, _, _, rfl, _⟩ := h; rfl) (fun cdv A outer s H E hr ds W d W' vs F h hv => ?_)
  have nd_ := sc24.nd
  obtain ⟨dl, sa, ns, k, many, rfl, ⟨hm, hz⟩, hw, rs, rfl, rfl⟩ := h
  cases hv with | @cons v_draw _ _ _ h_draw hv => ?_
  cases hv with | @cons v_many _ _ _ h_many hv => ?_
  cases hv
  cases h_draw
  cases h_many
  refine bl_augL (j := 1) (m := k) (m2 := 1) (ev_var (i := 0) rfl (.ow _)) ev_int hw rfl ev_int ?_
  refine bl_ret (ev_mod (ev_bty T.int cl_int (ea_cons (ev_call C__law_number hr (ea_cons (ev_ixW (ev_var (i := 0) rfl (.ow _)) ev_int upd_same rfl rs) (ea_cons (ev_bty T.int cl_int (ea_cons (ev_ixW (ev_var (i := 0) rfl (.ow _)) ev_int upd_same rfl (.int _)) ea_nil) rfl) ea_nil)) ⟨ns, (k : Int) + 1, ⟨by omega, hz⟩, rfl, rfl⟩) ea_nil) rfl) (ev_var (i := 1) rfl (.int _)) hm) ⟨rfl, rfl⟩

end
end B
set_option Elab.async false
set_option linter.all false
set_option maxRecDepth 100000
set_option maxHeartbeats 1000000
namespace B
open PySem PySem.Spec PyProof.Rows L2 Z
section
variable {P : Program} {w : World} {K : PySem.W.Frag} {mg : Str → Option Value} {base : Heap} {CN CH : Addr}
def r_pick (K : PySem.W.Frag) : Rel := fun ds F W d W' => ∃ (dl sa : Addr) (ns : List Int) (k : Nat) (items : List Int), ds = [.ow dl, eR false D.int items] ∧ (items ≠ [] ∧ ns.length ≤ 63) ∧ W dl = some (.lst [.ref sa, .int k]) ∧ Rep F (.ref sa) (eZ K ns) ∧ d = .int (ixI 0 items (tk ns k items.length)) ∧ W' = upd W dl (.lst [.ref sa, .int ((k : Int) + 1)])
abbrev s25 : Stmt := topS 25
theorem sc25 : FnScope ["draw", "items"] ["draw", "items"] (defScope s25) := ⟨rfl, rfl, rfl, by decide +kernel, rfl, by decide +kernel, by decide +kernel⟩
theorem d_pick (T : Txt K mg) (C_take : FnD P w K mg base 2 "_law_take" ["draw", "many"] (r_take K)) {f : Addr} {fd : FuncData} (Fu : Fun K "_law_pick" "_law_pick" s25 f fd) : FnOk P w K mg base CX0 3 f fd ["draw", "items"] (spG (r_pick K)) := by
  refine fn_ok Fu sc25 (fun ds F W d W' h => by obtain ⟨_, _, _, _, _, rfl, _⟩ := h; rfl) (fun cdv A outer s H E hr ds W d W' vs F h hv => ?_)
  have nd_ := sc25.nd
  obtain ⟨dl, sa, ns, k, items, rfl, ⟨hm, hz⟩, hw, rs, rfl, rfl⟩ := h
  cases hv with | @cons v_draw _ _ _ h_draw hv => ?_
  cases hv with | @cons v_items _ _ _ h_items hv => ?_
  cases hv
  cases h_draw
  have hl := List.length_pos_iff.mpr hm
  have ht := tk_in ns k (many := (items.length : Int)) (by omega)
  refine bl_ret (ev_ix (ev_var (i := 1) rfl h_items) (ev_callG C_take hr (ea_cons (ev_var (i := 0) rfl (.ow _)) (ea_cons (ev_blt T.len cl_lenR (ea_cons (ev_var (i := 1) rfl h_items) ea_nil) rfl) ea_nil)) (fun F1 e => ⟨dl, sa, ns, k, (items.length : Int), rfl, ⟨by omega, hz⟩, hw, rs.mono e, rfl, rfl⟩)) (ixI_at (d := 0) (by omega))) ⟨rfl, rfl⟩
section
variable {X : Cx} {σ : L2.St} {F W : Hp} {e a : Expr} {p pos : Pos} {dl sa : Addr} {k : Nat} {many : Int} {items ns : List Int} {W0 : Hp}
theorem ev_take (C : FnD X.prog X.w X.K X.mg X.base 2 "_law_take" ["draw", "many"] (r_take X.K)) (hr : Room 2 X.A) (ha : EvS X a σ F (WK W dl sa k) (.ow dl) (WK W dl sa k)) (he : EvS X e σ F (WK W dl sa k) (.int many) (WK W dl sa k)) (hm : 0 < many) (hz : ns.length ≤ 63) (rs : Rep F (.ref sa) (eZ X.K ns)) (hg : Gl X "_law_take" := by rfl)
    (h1 : starEach [a, e] X.env = (false, eval a X.env) :: starEach [e] X.env := by rfl) (h2 : starEach [e] X.env = (false, eval e X.env) :: starEach [] X.env := by rfl) (hpl : (backTo pos (starEach [e] X.env)).any (·.1) = false := by rfl) :
    EvS X (.Call (.Name "_law_take" p) [a, e] [] pos) σ F (WK W dl sa k) (.int (tk ns k many)) (WK W dl sa (k + 1)) :=
  ev_callG C hr (ea_cons ha (ea_cons he ea_nil h2) h1) (fun F1 ex => ⟨dl, sa, ns, k, many, rfl, ⟨hm, hz⟩, WK_at, rs.mono ex, rfl, WK_next.symm⟩) hg (by decide) h1 hpl
theorem ev_pick (C : FnD X.prog X.w X.K X.mg X.base 3 "_law_pick" ["draw", "items"] (r_pick X.K)) (hr : Room 3 X.A) (ha : EvS X a σ F W0 (.ow dl) W0) (he : EvS X e σ F W0 (eR false D.int items) (WK W dl sa k)) (hm : items ≠ []) (hz : ns.length ≤ 63) (rs : Rep F (.ref sa) (eZ X.K ns)) (hg : Gl X "_law_pick" := by rfl)
    (h1 : starEach [a, e] X.env = (false, eval a X.env) :: starEach [e] X.env := by rfl) (h2 : starEach [e] X.env = (false, eval e X.env) :: starEach [] X.env := by rfl) (hpl : (backTo pos (starEach [e] X.env)).any (·.1) = false := by rfl) :
    EvS X (.Call (.Name "_law_pick" p) [a, e] [] pos) σ F W0 (.int (ixI 0 items (tk ns k items.length))) (WK W dl sa (k + 1)) :=
  ev_callG C hr (ea_cons ha (ea_cons he ea_nil h2) h1) (fun F1 ex => ⟨dl, sa, ns, k, items, rfl, ⟨hm, hz⟩, WK_at, rs.mono ex, rfl, WK_next.symm⟩) hg (by decide) h1 hpl
end

def m__law_added (one : (List Int)) (other : (List Int)) : (List Int) := ((((one).zip other)).map fun x1 => (((x1).1 + (x1).2) % (9973 : Int)))
def r__law_added : List D → D → Prop := fun ds d => ∃ (t : Bool) (u : Bool) (one : (List Int)) (other : (List Int)), ds = [(eR t D.int) one, (eR u D.int) other] ∧ d = (eR false D.int) (m__law_added one other)
abbrev s26 : Stmt := topS 26
abbrev N26 : List Str := ["one", "other", "first", "late"]
theorem sc26 : FnScope N26 ["one", "other"] (defScope s26) := ⟨rfl, rfl, rfl, by decide +kernel, rfl, by decide +kernel, by decide +kernel⟩
theorem d__law_added (T : Txt K mg)  {f : Addr} {fd : FuncData} (Fu : Fun K "_law_added" "_law_added" s26 f fd) : FnOk P w K mg base CX0 1 f fd ["one", "other"] (spG (relP r__law_added)) := by
  refine fn_ok Fu sc26 (fun ds F W d W' h => by obtain ⟨⟨_, _, _, _, rfl, _⟩, _⟩ := h; rfl) (fun cdv A outer s H E hr ds W d W' vs F h hv => ?_)
  have nd_ := sc26.nd
  obtain ⟨⟨t, u, one, other, rfl, rfl⟩, rfl⟩ := h
  cases hv with | @cons v_one _ _ _ h_one hv => ?_
  cases hv with | @cons v_other _ _ _ h_other hv => ?_
  cases hv
  have hl_one := rep_len h_one
  have hl_other := rep_len h_other
  exact bl_ret (ev_ofLc (lc_M (own := [("first", 2), ("late", 3)]) (f := (eP D.int D.int)) (g := D.int) (fun x1 => (((x1).1 + (x1).2) % (9973 : Int))) (ei_zipR T.zip (ev_var (i := 0) rfl h_one) (ev_var (i := 1) rfl h_other)) (by first | assumption | omega | (simp only [List.length_map, enumT_len, rg_len]; omega) | (simp; done) | (simp; omega)) (fun x1 hx2 v_ F1_ e_ r3 => by
      replace h_one := h_one.mono e_
      replace h_other := h_other.mono e_
      have hx2m := List.of_mem_zip hx2
      intro s_ H0_ C_ cl_ fp_
      refine tg_tup (ds := [D.int ((x1).1), D.int ((x1).2)]) r3 (fun vs6 rr7 => ?_)
      cases rr7 with | @cons v_first _ _ _ h_first rr7 => ?_
      cases rr7 with | @cons v_late _ _ _ h_late rr7 => ?_
      cases rr7
      refine tgs_cons ?_
      cases h_first
      refine tg_name (i := 2) ?_
      refine tgs_cons ?_
      cases h_late
      refine tg_name (i := 3) ?_
      refine tgs_nil ?_
      refine ⟨rfl, fun s_ H0_ C_ cl_ fp_ => ?_, fun ht_ s_ H0_ C_ cl_ fp_ => ?_⟩
      · exact ets_nil
      · exact (ev_mod (ev_add (ev_var (i := 2) rfl (.int _)) (ev_var (i := 3) rfl (.int _))) ev_int (by first | decide | omega)))) (ok := blkOk_by (N := N26) (sc := defScope s26) (by decide +kernel))) ⟨rfl, rfl⟩
end
end B
set_option Elab.async false
set_option linter.all false
set_option maxRecDepth 100000
set_option maxHeartbeats 4000000
namespace B
open PySem PySem.Spec PyProof.Rows L2 Z
section
variable {P : Program} {w : World} {K : PySem.W.Frag} {mg : Str → Option Value} {base : Heap} {CN CH : Addr}
structure Me (P : Program) (w : World) (K : PySem.W.Frag) (mg : Str → Option Value) (base : Heap) (CN CH : Addr) : Prop where
  sn : MeD P w K mg base 5 CN "shows" ["self", "many", "places"] (relP (r_Noticed_shows CN))
  sh : MeD P w K mg base 3 CH "shows" ["self", "many", "places"] (relP (r_Hidden_shows CH))
  en : MeD P w K mg base 1 CN "__eq__" ["self", "other"] (relP (r_Noticed_eq CN))
def showsV (v : Option (List Int × List Int)) (many : Int) (places : List Int) : Bool := match v with
  | none => m_Noticed_shows () many places
  | some p => m_Hidden_shows p many places
section
variable {X : Cx} {σ : L2.St} {F W W1 W2 : Hp} {e a b : Expr} {p pos apos : Pos} {v : Option (List Int × List Int)} {t : Bool} {many : Int} {places : List Int}
theorem ev_showsH {q : List Int × List Int} (Y : Cl X.K X.mg CN CH) (Ms : Me X.prog X.w X.K X.mg X.base CN CH) (h : EvS X e σ F W (eH CH q) W1) (hr : Room 3 X.A) (ha : EvS X a σ F W1 (.int many) W1) (hb : EvS X b σ F W1 (eR t D.int places) W1) (hp : Pls many places)
    {pl : Sem Bool} (hst : starEach [a, b] X.env = (false, eval a X.env) :: starEach [b] X.env := by rfl) (hs2 : starEach [b] X.env = (false, eval b X.env) :: starEach [] X.env := by rfl) (hpl : (backTo pos (starEach [b] X.env)).any (·.1) = false := by rfl)
    (ht : eval (.Call (.Attribute e "shows" apos) [a, b] [] pos) X.env = (do
      let ov ← eval e X.env
      standAt apos.atName
      let (f, first) ← holding [ov] (getMethod ov "shows" pl)
      callWith pos f first (backTo pos (starEach [a, b] X.env)) (backToKw pos (keywordEach [] X.env))) := by rfl) : EvS X (.Call (.Attribute e "shows" apos) [a, b] [] pos) σ F W (.bl (m_Hidden_shows q many places)) W1 :=
  ev_meth (C := CH) h Y.h Ms.sh hr rfl (ea_cons ha (ea_cons hb ea_nil hs2) hst) (fun _ _ => ⟨⟨t, q, many, places, hp, rfl, rfl⟩, rfl⟩) hst hpl ht
theorem ev_showsV (Y : Cl X.K X.mg CN CH) (Ms : Me X.prog X.w X.K X.mg X.base CN CH) (h : EvS X e σ F W (eV CN CH v) W1) (hr : Room 5 X.A) (ha : EvS X a σ F W1 (.int many) W1) (hb : EvS X b σ F W1 (eR t D.int places) W1) (hp : JOk many places)
    {pl : Sem Bool} (hst : starEach [a, b] X.env = (false, eval a X.env) :: starEach [b] X.env := by rfl) (hs2 : starEach [b] X.env = (false, eval b X.env) :: starEach [] X.env := by rfl) (hpl : (backTo pos (starEach [b] X.env)).any (·.1) = false := by rfl)
    (ht : eval (.Call (.Attribute e "shows" apos) [a, b] [] pos) X.env = (do
      let ov ← eval e X.env
      standAt apos.atName
      let (f, first) ← holding [ov] (getMethod ov "shows" pl)
      callWith pos f first (backTo pos (starEach [a, b] X.env)) (backToKw pos (keywordEach [] X.env))) := by rfl) : EvS X (.Call (.Attribute e "shows" apos) [a, b] [] pos) σ F W (.bl (showsV v many places)) W1 := by
  cases v with
  | none => exact ev_meth (C := CN) (fds := []) h Y.n Ms.sn (hr.mono (by decide)) rfl (ea_cons ha (ea_cons hb ea_nil hs2) hst) (fun _ _ => ⟨⟨t, (), many, places, hp, rfl, rfl⟩, rfl⟩) hst hpl ht
  | some q => exact ev_meth (C := CH) h Y.h Ms.sh (hr.mono (by decide)) rfl (ea_cons ha (ea_cons hb ea_nil hs2) hst) (fun _ _ => ⟨⟨t, q, many, places, hp.1, rfl, rfl⟩, rfl⟩) hst hpl ht
theorem cm_neV (Y : Cl X.K X.mg CN CH) (Ms : Me X.prog X.w X.K X.mg X.base CN CH) (hr : Room 2 X.A) (hv : v.isNone = true) : CmpR X .NotEq F W (eV CN CH v) (eV CN CH none) false := by
  cases v with
  | none => exact cm_neO (C := CN) (C2 := CN) (fds := []) (gds := []) (q := true) Y.n Ms.en hr (fun _ _ => ⟨⟨(), (), rfl, rfl⟩, rfl⟩) Y.nfn
  | some q => simp at hv
theorem cm_eqV (Y : Cl X.K X.mg CN CH) (Ms : Me X.prog X.w X.K X.mg X.base CN CH) (hr : Room 1 X.A) (hv : v.isNone = true) : CmpR X .Eq F W (eV CN CH v) (eV CN CH none) true := by
  cases v with
  | none => exact cm_eqO (C := CN) (C2 := CN) (fds := []) (gds := []) (q := true) Y.n Ms.en hr (fun _ _ => ⟨⟨(), (), rfl, rfl⟩, rfl⟩) Y.nfn
  | some q => simp at hv
theorem ev_notV (Bf : Bo X.prog X.w X.K X.mg X.base CN CH) (h : EvS X e σ F W (eV CN CH v) W1) (hr : Room 1 X.A) : EvS X (.UnaryOp .Not e pos) σ F W (.bl (!v.isNone)) W1 := by
  cases v with
  | none => exact ev_notO (C := CN) (fds := []) h Bf.n hr (fun _ _ => ⟨⟨rfl, rfl⟩, rfl⟩)
  | some q => exact ev_notO (C := CH) h Bf.h hr (fun _ _ => ⟨⟨⟨q, rfl⟩, rfl⟩, rfl⟩)
end
end
end B
set_option Elab.async false
set_option linter.all false
set_option maxRecDepth 100000
set_option maxHeartbeats 4000000
namespace B
open PySem PySem.Spec PyProof.Rows L2 Z
theorem ixI_P {P : Int → Prop} {d : Int} {xs : List Int} {i : Int} (h : ∀ y ∈ xs, P y) (hd : P d) : P (ixI d xs i) := by
  unfold ixI
  cases e : atI xs i with
  | none => exact hd
  | some y => exact h y (atI_mem e)
theorem pick_in (ns : List Int) (k : Nat) : ∀ y ∈ ((0 : Int) :: (1 : Int) :: (9972 : Int) :: (tk ns k 9973) :: ([] : List Int)), 0 ≤ y ∧ y < 9973 := by
  intro y hy
  have := tk_in ns k (many := 9973) (by decide)
  simp only [List.mem_cons, List.not_mem_nil, or_false] at hy
  rcases hy with e | e | e | e <;> subst e <;> omega
theorem set2_map {l : List Int} {a b : Nat} {x y : Int} : ((l.map D.int).set a (D.int x)).set b (D.int y) = ((l.set a x).set b y).map D.int := by rw [List.map_set, List.map_set]
theorem sums_len (ws : List Int) : (m_sums_of ws).length = 2 := rfl
theorem blk_len (ws : List Int) : (m_block_of ws).length = ws.length + 2 := by
  unfold m_block_of
  rw [List.length_append, List.length_append, sums_len]; rfl
theorem rg_nodup (a b : Int) : (rg a b).Nodup := by
  unfold rg
  unfold List.Nodup; rw [List.pairwise_map]
  exact List.nodup_range.imp (fun h e => h (by omega))
theorem pls_of {many : Int} {places : List Int} (h1 : 1 ≤ many) (h2 : many ≤ 40) (h : places.Sublist (rg 0 (many + 2))) : Pls many places := by
  refine ⟨h1, h2, fun p hp => ?_, h.nodup (rg_nodup _ _), ?_⟩
  · have := rg_mem.mp (h.subset hp); omega
  · have := h.length_le; rw [rg_len] at this; omega
end B
set_option Elab.async false
set_option linter.all false
set_option maxRecDepth 100000
set_option maxHeartbeats 4000000
namespace B
open PySem PySem.Spec PyProof.Rows L2 Z
/-! ### the sums -/
def w2 : Nat → List Int → Int
  | _, [] => 0
  | k, x :: xs => ((k : Int) + 1) * x + w2 (k + 1) xs
theorem w2_cons (k : Nat) (x : Int) (xs : List Int) : w2 k (x :: xs) = ((k : Int) + 1) * x + w2 (k + 1) xs := rfl
theorem fold_sums : ∀ (xs : List Int) (k : Nat) (a b : Int), ((xs.zipIdx k).map fun p => ((p.2 : Int), p.1)).foldl (fun (s2 : Int × Int) (x3 : (Int × Int)) => (((s2.1 + (x3).2) % (9973 : Int)), ((s2.2 + (((x3).1 + (1 : Int)) * (x3).2)) % (9973 : Int)))) (a % 9973, b % 9973) = ((a + xs.sum) % 9973, (b + w2 k xs) % 9973)
  | [], k, a, b => by simp [w2]
  | x :: xs, k, a, b => by
    rw [List.zipIdx_cons, List.map_cons, List.foldl_cons]
    have ih := fold_sums xs (k + 1) (a + x) (b + ((k : Int) + 1) * x)
    have e1 : (a % 9973 + x) % 9973 = (a + x) % 9973 := Int.emod_add_emod _ _ _
    have e2 : (b % 9973 + ((k : Int) + 1) * x) % 9973 = (b + ((k : Int) + 1) * x) % 9973 := Int.emod_add_emod _ _ _
    simp only [e1, e2]
    rw [ih, List.sum_cons, w2_cons]
    rw [show a + x + xs.sum = a + (x + xs.sum) by omega, show b + ((k : Int) + 1) * x + w2 (k + 1) xs = b + (((k : Int) + 1) * x + w2 (k + 1) xs) by omega]
theorem sums_eq (ws : List Int) : m_sums_of ws = [((ws.length : Int) + ws.sum) % 9973, ((ws.length : Int) + w2 0 ws) % 9973] := by
  cases ws with
  | nil => rfl
  | cons x xs =>
    unfold m_sums_of enumT
    rw [List.zipIdx_cons, List.map_cons, List.foldl_cons]
    have h := fold_sums xs 1 (((x :: xs).length : Int) + x) (((x :: xs).length : Int) + (((0 : Nat) : Int) + 1) * x)
    simp only at h ⊢
    rw [Nat.zero_add, h, List.sum_cons, w2_cons]
    rw [show (((x :: xs).length : Int) + x + xs.sum) = ((x :: xs).length : Int) + (x + xs.sum) by omega, show ((x :: xs).length : Int) + (((0 : Nat) : Int) + 1) * x + w2 1 xs = ((x :: xs).length : Int) + ((((0 : Nat) : Int) + 1) * x + w2 (0 + 1) xs) by rw [Nat.zero_add]; omega]
theorem blk_eq (ws : List Int) : m_block_of ws = ws ++ [((ws.length : Int) + ws.sum) % 9973, ((ws.length : Int) + w2 0 ws) % 9973] := by
  unfold m_block_of; rw [sums_eq, List.append_nil]
theorem ixI_app1 {d : Int} {xs ys : List Int} {i : Int} (h0 : 0 ≤ i) (h : i < xs.length) : ixI d (xs ++ ys) i = ixI d xs i := by
  rw [ixI_pos h0 (by rw [List.length_append]; omega), ixI_pos h0 h, List.getD_eq_getElem?_getD, List.getD_eq_getElem?_getD, List.getElem?_append_left (by omega)]
theorem ixI_app2 {d : Int} {xs ys : List Int} {i : Int} (h : (xs.length : Int) ≤ i) (h2 : i < xs.length + ys.length) : ixI d (xs ++ ys) i = ixI d ys (i - xs.length) := by
  rw [ixI_pos (by omega) (by rw [List.length_append]; omega), ixI_pos (by omega) (by omega), List.getD_eq_getElem?_getD, List.getD_eq_getElem?_getD, List.getElem?_append_right (by omega)]
  congr 2; omega
theorem blk_at {ws : List Int} {i : Int} (h0 : 0 ≤ i) (h : i < ws.length) : ixI 0 (m_block_of ws) i = ixI 0 ws i := by
  rw [blk_eq]; exact ixI_app1 h0 h
theorem blk_p {ws : List Int} {i : Int} (h : i = ws.length) : ixI 0 (m_block_of ws) i = ((ws.length : Int) + ws.sum) % 9973 := by
  rw [blk_eq, ixI_app2 (by omega) (by simp; omega), h, Int.sub_self]; rfl
theorem blk_h {ws : List Int} {i : Int} (h : i = ws.length + 1) : ixI 0 (m_block_of ws) i = ((ws.length : Int) + w2 0 ws) % 9973 := by
  rw [blk_eq, ixI_app2 (by omega) (by simp; omega), show i - (ws.length : Int) = 1 by omega]; rfl
/-! ### words of blocks -/
theorem sIx_m2 (n d : Nat) : HT.sIx (n + 2) d (some (-(2 : Int))) = n := by
  unfold HT.sIx
  show (if (-(2 : Int)) < 0 then (-(2 : Int) + ((n + 2 : Nat) : Int)).toNat else min (-(2 : Int)).toNat (n + 2)) = n
  rw [if_pos (by decide)]; omega
theorem cut_head (ws : List Int) (a b : Int) : cutL (ws ++ [a, b]) none (some (-(2 : Int))) = ws := by
  unfold cutL
  rw [List.length_append, show [a, b].length = 2 from rfl, sIx_m2, HT.sIx_none]; simp
theorem cut_tail (ws : List Int) (a b : Int) : cutL (ws ++ [a, b]) (some (-(2 : Int))) none = [a, b] := by
  unfold cutL
  rw [List.length_append, show [a, b].length = 2 from rfl, sIx_m2, HT.sIx_none]; simp
theorem split_two {blk : List Int} (h : 2 ≤ blk.length) : ∃ ws a b, blk = ws ++ [a, b] := by
  refine ⟨blk.take (blk.length - 2), blk[blk.length - 2], blk[blk.length - 2 + 1], ?_⟩
  conv => lhs; rw [← List.take_append_drop (blk.length - 2) blk]
  congr 1
  rw [List.drop_eq_getElem_cons (by omega), List.drop_eq_getElem_cons (by omega), List.drop_eq_nil_of_le (by omega)]
theorem in_range {ws : List Int} : ((ws.map fun x9 => ((decide ((0 : Int) ≤ x9)) && (decide (x9 < (9973 : Int))))).all id) = true ↔ ∀ w ∈ ws, 0 ≤ w ∧ w < 9973 := by
  simp only [List.all_map, List.all_eq_true, Function.comp, id, Bool.and_eq_true, decide_eq_true_eq]
open Classical in
theorem words_app (ws : List Int) (a b : Int) : m_words_in (ws ++ [a, b]) = if Wds ws ∧ m_sums_of ws = [a, b] then some ws else none := by
  unfold m_words_in
  rw [cut_head, cut_tail]
  have e1 : ((!true) || ((decide (((ws ++ [a, b]).length : Int) < (2 : Int))) || (!((((ws ++ [a, b]).map fun x3 => true)).all id)))) = false := by
    have : ((ws ++ [a, b]).map fun _ => true).all id = true := by simp
    rw [this]
    simp; omega
  rw [if_neg (by rw [e1]; decide)]
  by_cases hw : Wds ws
  · have e2 : ((decide ((40 : Int) < ((ws.length : Int)))) || (!(((ws.map fun x9 => ((decide ((0 : Int) ≤ x9)) && (decide (x9 < (9973 : Int)))))).all id))) = false := by
      rw [in_range.mpr hw.2]; have := hw.1; simp; omega
    rw [if_neg (by rw [e2]; decide)]
    by_cases hs : m_sums_of ws = [a, b]
    · rw [if_pos (by simpa using hs), if_pos ⟨hw, hs⟩]
    · rw [if_neg (by simpa using hs), if_neg (fun h => hs h.2)]
  · have e2 : ((decide ((40 : Int) < ((ws.length : Int)))) || (!(((ws.map fun x9 => ((decide ((0 : Int) ≤ x9)) && (decide (x9 < (9973 : Int)))))).all id))) = true := by
      by_cases hl : ws.length ≤ 40
      · have : ¬ ∀ w ∈ ws, 0 ≤ w ∧ w < 9973 := fun h => hw ⟨hl, h⟩
        rw [← in_range] at this
        simp only [Bool.or_eq_true, Bool.not_eq_true']
        exact .inr (by simpa using this)
      · simp only [Bool.or_eq_true, decide_eq_true_eq]; exact .inl (by omega)
    rw [if_pos e2, if_neg (fun h => hw h.1)]
theorem words_blk {ws : List Int} (h : Wds ws) : m_words_in (m_block_of ws) = some ws := by
  rw [blk_eq, words_app, if_pos ⟨h, sums_eq ws⟩]
theorem words_some {blk ws : List Int} (h : m_words_in blk = some ws) : Wds ws ∧ blk = m_block_of ws := by
  by_cases hl : 2 ≤ blk.length
  · obtain ⟨us, a, b, rfl⟩ := split_two hl
    rw [words_app] at h
    split at h
    · rename_i hh
      cases h
      exact ⟨hh.1, by unfold m_block_of; rw [hh.2, List.append_nil]⟩
    · cases h
  · unfold m_words_in at h
    rw [if_pos (by simp; omega)] at h
    cases h
end B
set_option Elab.async false
set_option linter.all false
set_option maxRecDepth 100000
set_option maxHeartbeats 4000000
namespace B
open PySem PySem.Spec PyProof.Rows L2 Z
/-! ### one place changed -/
theorem sum_set : ∀ (xs : List Int) (i : Nat) (v : Int), i < xs.length → (xs.set i v).sum = xs.sum + (v - xs.getD i 0)
  | [], i, v, h => absurd h (Nat.not_lt_zero _)
  | x :: xs, 0, v, h => by simp only [List.set_cons_zero, List.sum_cons, List.getD_cons_zero]; omega
  | x :: xs, i + 1, v, h => by
    simp only [List.set_cons_succ, List.sum_cons, List.getD_cons_succ]
    rw [sum_set xs i v (by simpa using h)]; omega
theorem w2_set : ∀ (xs : List Int) (k i : Nat) (v : Int), i < xs.length → w2 k (xs.set i v) = w2 k xs + ((k : Int) + (i : Int) + 1) * (v - xs.getD i 0)
  | [], k, i, v, h => absurd h (Nat.not_lt_zero _)
  | x :: xs, k, 0, v, h => by
    simp only [List.set_cons_zero, w2_cons, List.getD_cons_zero]
    rw [Int.mul_sub, show (k : Int) + ((0 : Nat) : Int) + 1 = (k : Int) + 1 by omega]; omega
  | x :: xs, k, i + 1, v, h => by
    simp only [List.set_cons_succ, w2_cons, List.getD_cons_succ]
    rw [w2_set xs (k + 1) i v (by simpa using h)]
    rw [show (((k + 1 : Nat) : Int) + (i : Int) + 1) = ((k : Int) + ((i + 1 : Nat) : Int) + 1) by omega]; omega
theorem gcds : ((List.range 9973).all fun f => f == 0 || Nat.gcd f 9973 == 1) = true := by decide +kernel
theorem no_div {f d : Int} (hf : 1 ≤ f ∧ f < 9973) (hd : -9973 < d ∧ d < 9973) (h : (f * d) % 9973 = 0) : d = 0 := by
  have hg := List.all_eq_true.mp gcds f.toNat (List.mem_range.mpr (by omega))
  simp only [Bool.or_eq_true, beq_iff_eq] at hg
  have hc : Nat.Coprime 9973 f.natAbs := by
    unfold Nat.Coprime
    rw [Nat.gcd_comm]
    rcases hg with h0 | h1
    · omega
    · rw [show f.natAbs = f.toNat by omega]; exact h1
  have hv : (9973 : Int) ∣ f * d := Int.dvd_of_emod_eq_zero h
  have hn : 9973 ∣ f.natAbs * d.natAbs := by
    rw [← Int.natAbs_mul]; exact Int.natAbs_dvd_natAbs.mpr hv
  have h2 := hc.dvd_of_dvd_mul_left hn
  have h3 : d.natAbs = 0 := Nat.eq_zero_of_dvd_of_lt h2 (by omega)
  omega
/-! ### rows added, multiplied -/
theorem added_len (a b : List Int) : (m__law_added a b).length = min a.length b.length := by unfold m__law_added; rw [List.length_map, List.length_zip]
theorem added_wds {a b : List Int} (ha : Wds a) : Wds (m__law_added a b) := by
  refine ⟨by rw [added_len]; have := ha.1; omega, fun w hw => ?_⟩
  unfold m__law_added at hw
  obtain ⟨x, _, rfl⟩ := List.mem_map.mp hw
  exact mod_in _
theorem added_cons (x y : Int) (a b : List Int) : m__law_added (x :: a) (y :: b) = (x + y) % 9973 :: m__law_added a b := rfl
theorem added_sum : ∀ (a b : List Int), a.length = b.length → (m__law_added a b).sum % 9973 = (a.sum + b.sum) % 9973
  | [], [], _ => rfl
  | x :: a, y :: b, h => by
    have := added_sum a b (by simpa using h)
    rw [added_cons, List.sum_cons, List.sum_cons, List.sum_cons]; omega
  | [], _ :: _, h => by simp at h
  | _ :: _, [], h => by simp at h
theorem mul_mod_eq (c x y : Int) (h : x % 9973 = y % 9973) : (c * x) % 9973 = (c * y) % 9973 := by rw [Int.mul_emod, h, ← Int.mul_emod]
theorem added_w2 : ∀ (a b : List Int) (k : Nat), a.length = b.length → (w2 k (m__law_added a b)) % 9973 = (w2 k a + w2 k b) % 9973
  | [], [], _, _ => rfl
  | x :: a, y :: b, k, h => by
    have ih := added_w2 a b (k + 1) (by simpa using h)
    rw [added_cons, w2_cons, w2_cons, w2_cons]
    have h1 := mul_mod_eq ((k : Int) + 1) ((x + y) % 9973) (x + y) (Int.emod_emod_of_dvd _ (Int.dvd_refl _))
    rw [Int.mul_add] at h1
    omega
  | [], _ :: _, _, h => by simp at h
  | _ :: _, [], _, h => by simp at h
theorem scaled_wds {f : Int} {ws : List Int} (h : ws.length ≤ 40) : Wds (ws.map fun x => f * x % 9973) := by
  refine ⟨by rw [List.length_map]; exact h, fun w hw => ?_⟩
  obtain ⟨x, _, rfl⟩ := List.mem_map.mp hw
  exact mod_in _
theorem scaled_sum (f : Int) : ∀ ws : List Int, ((ws.map fun x => f * x % 9973).sum) % 9973 = (f * ws.sum) % 9973
  | [] => by simp
  | x :: ws => by
    have ih := scaled_sum f ws
    rw [List.map_cons, List.sum_cons, List.sum_cons, Int.mul_add]; omega
theorem scaled_w2 (f : Int) : ∀ (ws : List Int) (k : Nat), (w2 k (ws.map fun x => f * x % 9973)) % 9973 = (f * w2 k ws) % 9973
  | [], k => by simp [w2]
  | x :: ws, k => by
    have ih := scaled_w2 f ws (k + 1)
    rw [List.map_cons, w2_cons, w2_cons, Int.mul_add]
    have h1 := mul_mod_eq ((k : Int) + 1) (f * x % 9973) (f * x) (Int.emod_emod_of_dvd _ (Int.dvd_refl _))
    rw [show f * (((k : Int) + 1) * x) = ((k : Int) + 1) * (f * x) by rw [← Int.mul_assoc, ← Int.mul_assoc, Int.mul_comm f]]
    omega
/-! ### what law asks of sums -/
section
variable {many : Int} {words others : List Int}
theorem rep_eq (n : Nat) : (List.replicate n [(0 : Int)]).flatten = List.replicate n 0 := by
  induction n with
  | zero => rfl
  | succ n ih => rw [List.replicate_succ, List.flatten_cons, ih]; rfl
theorem rep_sum : ∀ n : Nat, (List.replicate n (0 : Int)).sum = 0
  | 0 => rfl
  | n + 1 => by rw [List.replicate_succ, List.sum_cons, rep_sum n]; rfl
theorem rep_w2 : ∀ (n k : Nat), w2 k (List.replicate n (0 : Int)) = 0
  | 0, _ => rfl
  | n + 1, k => by rw [List.replicate_succ, w2_cons, rep_w2 n]; simp
theorem nv0 (h1 : 1 ≤ many) (h2 : many ≤ 8) (hw : Wds words) (ho : Wds others) (hl : words.length = many.toNat) (hl2 : others.length = many.toNat) :
    (!decide (m_words_in (m_block_of words) = some words) || (!decide (m_words_in (m_block_of words) = some words) || (!decide ([many, many + 1].map (fun x15 => (ixI 0 (m_block_of (m__law_added words others)) x15 + ixI 0 (m_block_of (List.replicate many.toNat [0]).flatten) x15 - ixI 0 (m_block_of words) x15 - ixI 0 (m_block_of others) x15) % 9973) = [0, 0]) || (!decide (cutL (m_block_of words) none (some many) = words) || !decide (m_block_of (List.replicate many.toNat [0]).flatten = (List.replicate many.toNat [0]).flatten ++ [many, many]))))) = false := by
  have e1 : (words.length : Int) = many := by omega
  have e2 : (others.length : Int) = many := by omega
  have e3 : ((m__law_added words others).length : Int) = many := by rw [added_len]; omega
  have e4 : ((List.replicate many.toNat (0 : Int)).length : Int) = many := by rw [List.length_replicate]; omega
  have c1 : cutL (m_block_of words) none (some many) = words := by
    rw [blk_eq]
    unfold cutL
    rw [HT.sIx_none, show (some many : Option Int) = some ((words.length : Nat) : Int) by rw [e1], HT.sIx_nat, List.length_append]
    simp
  have s1 := added_sum words others (by omega)
  have s2 := added_w2 words others 0 (by omega)
  have c2 : [many, many + 1].map (fun x15 => (ixI 0 (m_block_of (m__law_added words others)) x15 + ixI 0 (m_block_of (List.replicate many.toNat [0]).flatten) x15 - ixI 0 (m_block_of words) x15 - ixI 0 (m_block_of others) x15) % 9973) = [0, 0] := by
    rw [rep_eq, List.map_cons, List.map_cons, List.map_nil]
    rw [blk_p e3.symm, blk_p e4.symm, blk_p e1.symm, blk_p e2.symm, blk_h (by omega), blk_h (by omega), blk_h (by omega), blk_h (by omega), rep_sum, rep_w2, e1, e2, e3, e4]
    congr 1
    · omega
    · congr 1; omega
  have c3 : m_block_of (List.replicate many.toNat [0]).flatten = (List.replicate many.toNat [0]).flatten ++ [many, many] := by
    rw [rep_eq, blk_eq, rep_sum, rep_w2, e4]
    congr 2
    · omega
    · congr 1; omega
  rw [words_blk hw, c1, c2, ← c3]
  simp
theorem nv1 {factor : Int} (h1 : 1 ≤ many) (h2 : many ≤ 8) (hl : words.length = many.toNat) :
    (!decide ([many, many + 1].map (fun x25 => (ixI 0 (m_block_of (words.map fun x21 => factor * x21 % 9973)) x25 - many - factor * (ixI 0 (m_block_of words) x25 - many)) % 9973) = [0, 0])) = false := by
  have e1 : (words.length : Int) = many := by omega
  have e3 : ((words.map fun x21 => factor * x21 % 9973).length : Int) = many := by rw [List.length_map]; exact e1
  have s1 := scaled_sum factor words
  have s2 := scaled_w2 factor words 0
  have key : ∀ A S : Int, A % 9973 = (factor * S) % 9973 → ((many + A) % 9973 - many - factor * ((many + S) % 9973 - many)) % 9973 = 0 := by
    intro A S h
    have h3 := mul_mod_eq factor ((many + S) % 9973 - many) S (by omega)
    omega
  rw [List.map_cons, List.map_cons, List.map_nil, blk_p e3.symm, blk_p e1.symm, blk_h (by omega), blk_h (by omega), e1, e3, key _ _ s1, key _ _ s2]
  simp
theorem nv4 (h1 : 1 ≤ many) (hl : words.length = many.toNat) : (!decide (ixI 0 (m_block_of (words ++ [0])) (many + 1) = (ixI 0 (m_block_of words) many + 1) % 9973) || !decide (ixI 0 (m_block_of (words ++ [0])) (many + 2) = (ixI 0 (m_block_of words) (many + 1) + 1) % 9973)) = false := by
  have e1 : (words.length : Int) = many := by omega
  have e2 : ((words ++ [0]).length : Int) = many + 1 := by rw [List.length_append]; show ((words.length + 1 : Nat) : Int) = _; omega
  have w2a : ∀ (xs : List Int) (k : Nat), w2 k (xs ++ [0]) = w2 k xs := by
    intro xs
    induction xs with
    | nil => intro k; simp [w2]
    | cons x xs ih => intro k; rw [List.cons_append, w2_cons, w2_cons, ih]
  rw [blk_p e2.symm, blk_p e1.symm, blk_h (by omega), blk_h (by omega), e1, e2, w2a, List.sum_append]
  simp only [List.sum_cons, List.sum_nil]
  simp; omega
theorem nv3 : (!true || !(m_words_in []).isNone) = false := by decide
theorem nv2 {x : List Int} : (!(m_words_in x).isNone && !decide (m_block_of (cutL x none (some (-(2 : Int)))) = x)) = false := by
  cases h : m_words_in x with
  | none => rfl
  | some ws =>
    obtain ⟨_, e⟩ := words_some h
    have c : cutL x none (some (-(2 : Int))) = ws := by rw [e, blk_eq, cut_head]
    rw [c, ← e]; simp
theorem wds_cut {x : List Int} (h : (!(m_words_in x).isNone) = true) : Wds (cutL x none (some (-(2 : Int)))) := by
  cases h2 : m_words_in x with
  | none => rw [h2] at h; cases h
  | some ws =>
    obtain ⟨hw, e⟩ := words_some h2
    rw [e, blk_eq, cut_head]; exact hw
end
end B
set_option Elab.async false
set_option linter.all false
set_option maxRecDepth 100000
set_option maxHeartbeats 4000000
namespace B
open PySem PySem.Spec PyProof.Rows L2 Z
section
variable {many : Int} {words others places : List Int}
theorem nv5 {i j : Int} (h1 : 1 ≤ many) (h2 : many ≤ 8) (hw : Wds words) (hl : words.length = many.toNat) (hi : 0 ≤ i) (hij : i < j) (hj : j < many) :
    (!decide ((m_words_in (((m_block_of words).set i.toNat (ixI 0 (m_block_of words) j)).set j.toNat (ixI 0 (m_block_of words) i))).isNone = !decide (ixI 0 words i = ixI 0 words j))) = false := by
  have e1 : (words.length : Int) = many := by omega
  have li : i.toNat < words.length := by omega
  have lj : j.toNat < words.length := by omega
  rw [blk_at (ws := words) (i := j) (by omega) (by omega), blk_at (ws := words) (i := i) hi (by omega)]
  have gi : ixI 0 words i = words[i.toNat] := by rw [ixI_pos hi (by omega)]; simp [List.getD_eq_getElem?_getD, li]
  have gj : ixI 0 words j = words[j.toNat] := by rw [ixI_pos (by omega) (by omega)]; simp [List.getD_eq_getElem?_getD, lj]
  rw [gi, gj]
  have ri := hw.2 _ (List.getElem_mem li)
  have rj := hw.2 _ (List.getElem_mem lj)
  rw [blk_eq, List.set_append_left _ _ li, List.set_append_left _ _ (by rw [List.length_set]; exact lj), words_app]
  by_cases he : words[i.toNat] = words[j.toNat]
  · have es : (words.set i.toNat words[j.toNat]).set j.toNat words[i.toNat] = words := by
      rw [← he, List.set_getElem_self, he, List.set_getElem_self]
    rw [es, if_pos ⟨hw, sums_eq words⟩, he]; simp
  · have hn : ¬ m_sums_of ((words.set i.toNat words[j.toNat]).set j.toNat words[i.toNat]) = [((words.length : Int) + words.sum) % 9973, ((words.length : Int) + w2 0 words) % 9973] := by
      intro h
      rw [sums_eq, List.length_set, List.length_set, w2_set _ 0 j.toNat _ (by rw [List.length_set]; exact lj), w2_set _ 0 i.toNat _ li] at h
      have g1 : words.getD i.toNat 0 = words[i.toNat] := by simp [List.getD_eq_getElem?_getD, li]
      have g2 : (words.set i.toNat words[j.toNat]).getD j.toNat 0 = words[j.toNat] := by
        rw [List.getD_eq_getElem?_getD, List.getElem?_set_ne (by omega)]; simp [lj]
      rw [g1, g2] at h
      have h4 := (List.cons.inj (List.cons.inj h).2).1
      have h5 : ((j - i) * (words[i.toNat] - words[j.toNat])) % 9973 = 0 := by
        have a1 : (((0 : Nat) : Int) + (i.toNat : Int) + 1) * (words[j.toNat] - words[i.toNat]) = -((i + 1) * (words[i.toNat] - words[j.toNat])) := by
          rw [show (((0 : Nat) : Int) + (i.toNat : Int) + 1) = i + 1 by omega, ← Int.mul_neg]; congr 1; omega
        have a2 : (((0 : Nat) : Int) + (j.toNat : Int) + 1) * (words[i.toNat] - words[j.toNat]) = (j + 1) * (words[i.toNat] - words[j.toNat]) := by
          rw [show (((0 : Nat) : Int) + (j.toNat : Int) + 1) = j + 1 by omega]
        rw [a1, a2] at h4
        have a3 : (j - i) * (words[i.toNat] - words[j.toNat]) = (j + 1) * (words[i.toNat] - words[j.toNat]) - (i + 1) * (words[i.toNat] - words[j.toNat]) := by
          rw [← Int.sub_mul]; congr 1; omega
        rw [a3]; omega
      have := no_div (f := j - i) (d := words[i.toNat] - words[j.toNat]) (by omega) (by omega) h5
      exact he (by omega)
    rw [if_neg (fun h => hn h.2)]
    simp [he]
/-! ### where two blocks differ -/
def dif (many : Int) (a b : List Int) : List Int := (rg 0 (many + 2)).filter fun x => !decide (ixI 0 a x = ixI 0 b x)
theorem shows_blk {a b : List Int} (ha : Wds a) (hb : Wds b) (h1 : (a.length : Int) = many) (h2 : (b.length : Int) = many) : m_Hidden_shows (m_block_of a, m_block_of b) many places = decide (dif many (m_block_of a) (m_block_of b) = sortI places) := by
  unfold m_Hidden_shows dif
  have l1 : ((m_block_of a).length : Int) = many + 2 := by rw [blk_len]; omega
  have l2 : ((m_block_of b).length : Int) = many + 2 := by rw [blk_len]; omega
  rw [words_blk ha, words_blk hb, l1, l2]
  simp
theorem shows_len {a b : List Int} (h : (a.length : Int) ≠ many + 2) : m_Hidden_shows (a, b) many places = false := by
  unfold m_Hidden_shows
  rw [if_pos]
  simp [h]
theorem rg_sorted (a b : Int) : (rg a b).Pairwise (· ≤ ·) := by
  unfold rg
  rw [List.pairwise_map]
  exact (List.pairwise_lt_range).imp (fun h => by omega)
theorem sortI_of {ps qs : List Int} (h : ps.Perm qs) (hq : qs.Sublist (rg 0 (many + 2))) : sortI ps = qs := by
  refine PySem.W.os_sorted_one ((sortI_perm ps).trans h) ?_ ((rg_sorted _ _).sublist hq)
  have hs := List.pairwise_mergeSort (le := fun x y : Int => decide (x ≤ y)) (by intro x y z hxy hyz; simp only [decide_eq_true_eq] at *; omega) (by intro x y; simp only [Bool.or_eq_true, decide_eq_true_eq]; omega) ps
  unfold sortI
  simpa using hs
theorem filter_sub : ∀ {l s : List Int}, s.Sublist l → l.Nodup → (l.filter fun x => decide (x ∈ s)) = s
  | _, _, .slnil, _ => rfl
  | _, _, .cons (l₁ := s) (l₂ := l) a h, hn => by
    have hn2 := List.nodup_cons.mp hn
    have : a ∉ s := fun hm => hn2.1 (h.subset hm)
    rw [List.filter_cons, if_neg (by simpa using this)]
    exact filter_sub h hn2.2
  | _, _, .cons₂ (l₁ := s) (l₂ := l) a h, hn => by
    have hn2 := List.nodup_cons.mp hn
    rw [List.filter_cons, if_pos (by simp)]
    congr 1
    have e : (l.filter fun x => decide (x ∈ a :: s)) = l.filter fun x => decide (x ∈ s) := by
      apply List.filter_congr
      intro x hx
      have : x ≠ a := fun e => hn2.1 (e ▸ hx)
      simp [this]
    rw [e]; exact filter_sub h hn2.2
theorem dif_eq {a b qs : List Int} (hq : qs.Sublist (rg 0 (many + 2))) (h : ∀ x, 0 ≤ x → x < many + 2 → (ixI 0 a x = ixI 0 b x ↔ x ∉ qs)) : dif many a b = qs := by
  unfold dif
  rw [← filter_sub hq (rg_nodup _ _)]
  apply List.filter_congr
  intro x hx
  have := rg_mem.mp hx
  have h2 := h x this.1 this.2
  by_cases hm : x ∈ qs
  · have : ¬ ixI 0 a x = ixI 0 b x := fun e => (h2.mp e) hm
    simp [hm, this]
  · have := h2.mpr hm
    simp [hm, this]
theorem dif_mem {a b : List Int} {x : Int} : x ∈ dif many a b ↔ (0 ≤ x ∧ x < many + 2) ∧ ixI 0 a x ≠ ixI 0 b x := by
  unfold dif
  rw [List.mem_filter, rg_mem]; simp
theorem dif_congr {a b c d : List Int} (h : ∀ x, 0 ≤ x → x < many + 2 → (ixI 0 a x = ixI 0 b x ↔ ixI 0 c x = ixI 0 d x)) : dif many a b = dif many c d := by
  unfold dif
  apply List.filter_congr
  intro x hx
  have := rg_mem.mp hx
  rw [decide_eq_decide.mpr (h x this.1 this.2)]
theorem dif_sub (a b : List Int) : (dif many a b).Sublist (rg 0 (many + 2)) := List.filter_sublist
/-! ### added, multiplied: the same places differ -/
theorem three {x : Int} (h0 : 0 ≤ x) (h : x < many + 2) : x < many ∨ x = many ∨ x = many + 1 := by omega
theorem added_at {a b : List Int} {x : Int} (h0 : 0 ≤ x) (ha : x < a.length) (hb : x < b.length) : ixI 0 (m__law_added a b) x = (ixI 0 a x + ixI 0 b x) % 9973 := by
  rw [ixI_pos h0 (by rw [added_len]; omega), ixI_pos h0 ha, ixI_pos h0 hb]
  unfold m__law_added
  have l1 : x.toNat < a.length := by omega
  have l2 : x.toNat < b.length := by omega
  simp only [List.getD_eq_getElem?_getD, List.getElem?_map]
  rw [List.getElem?_eq_getElem (by rw [List.length_zip]; omega), List.getElem_zip, List.getElem?_eq_getElem l1, List.getElem?_eq_getElem l2]; rfl
theorem scaled_at {f : Int} {a : List Int} {x : Int} (h0 : 0 ≤ x) (ha : x < a.length) : ixI 0 (a.map fun x => f * x % 9973) x = f * ixI 0 a x % 9973 := by
  rw [ixI_pos h0 (by rw [List.length_map]; exact ha), ixI_pos h0 ha]
  have l1 : x.toNat < a.length := by omega
  simp [List.getD_eq_getElem?_getD, l1]
theorem at_in {a : List Int} (h : ∀ w ∈ a, 0 ≤ w ∧ w < 9973) (x : Int) : 0 ≤ ixI 0 a x ∧ ixI 0 a x < 9973 := ixI_P (P := fun w => 0 ≤ w ∧ w < 9973) h (by decide)
theorem dif_added {a b w : List Int} (ha : Wds a) (hb : Wds b) (h1 : (a.length : Int) = many) (h2 : (b.length : Int) = many) (h3 : (w.length : Int) = many) :
    dif many (m_block_of (m__law_added a w)) (m_block_of (m__law_added b w)) = dif many (m_block_of a) (m_block_of b) := by
  have l1 : ((m__law_added a w).length : Int) = many := by rw [added_len]; omega
  have l2 : ((m__law_added b w).length : Int) = many := by rw [added_len]; omega
  apply dif_congr
  intro x h0 hx
  rcases three h0 hx with h | h | h
  · rw [blk_at h0 (by omega), blk_at h0 (by omega), blk_at h0 (by omega), blk_at h0 (by omega), added_at h0 (by omega) (by omega), added_at h0 (by omega) (by omega)]
    have := at_in ha.2 x
    have := at_in hb.2 x
    omega
  · rw [blk_p (by omega), blk_p (by omega), blk_p (by omega), blk_p (by omega), l1, l2, h1, h2]
    have := added_sum a w (by omega)
    have := added_sum b w (by omega)
    omega
  · rw [blk_h (by omega), blk_h (by omega), blk_h (by omega), blk_h (by omega), l1, l2, h1, h2]
    have := added_w2 a w 0 (by omega)
    have := added_w2 b w 0 (by omega)
    omega
theorem mul_cancel {f x y : Int} (hf : 1 ≤ f ∧ f < 9973) (h : (f * x) % 9973 = (f * y) % 9973) : x % 9973 = y % 9973 := by
  have h1 : (f * ((x % 9973) - (y % 9973))) % 9973 = 0 := by
    have a := mul_mod_eq f (x % 9973) x (Int.emod_emod_of_dvd _ (Int.dvd_refl _))
    have b := mul_mod_eq f (y % 9973) y (Int.emod_emod_of_dvd _ (Int.dvd_refl _))
    rw [Int.mul_sub]; omega
  have := no_div hf (by omega) h1
  omega
theorem dif_scaled {f : Int} {a b : List Int} (hf : 1 ≤ f ∧ f < 9973) (ha : Wds a) (hb : Wds b) (h1 : (a.length : Int) = many) (h2 : (b.length : Int) = many) :
    dif many (m_block_of (a.map fun x => f * x % 9973)) (m_block_of (b.map fun x => f * x % 9973)) = dif many (m_block_of a) (m_block_of b) := by
  have l1 : ((a.map fun x => f * x % 9973).length : Int) = many := by rw [List.length_map]; exact h1
  have l2 : ((b.map fun x => f * x % 9973).length : Int) = many := by rw [List.length_map]; exact h2
  apply dif_congr
  intro x h0 hx
  rcases three h0 hx with h | h | h
  · rw [blk_at h0 (by omega), blk_at h0 (by omega), blk_at h0 (by omega), blk_at h0 (by omega), scaled_at h0 (by omega), scaled_at h0 (by omega)]
    have := at_in ha.2 x
    have := at_in hb.2 x
    constructor
    · intro e; have := mul_cancel hf e; omega
    · intro e; rw [e]
  · rw [blk_p (by omega), blk_p (by omega), blk_p (by omega), blk_p (by omega), l1, l2, h1, h2]
    have s1 := scaled_sum f a
    have s2 := scaled_sum f b
    constructor
    · intro e; have := mul_cancel (x := a.sum) (y := b.sum) hf (by omega); omega
    · intro e; have := mul_mod_eq f a.sum b.sum (by omega); omega
  · rw [blk_h (by omega), blk_h (by omega), blk_h (by omega), blk_h (by omega), l1, l2, h1, h2]
    have s1 := scaled_w2 f a 0
    have s2 := scaled_w2 f b 0
    constructor
    · intro e; have := mul_cancel (x := w2 0 a) (y := w2 0 b) hf (by omega); omega
    · intro e; have := mul_mod_eq f (w2 0 a) (w2 0 b) (by omega); omega
end
end B
set_option Elab.async false
set_option linter.all false
set_option maxRecDepth 100000
set_option maxHeartbeats 4000000
namespace B
open PySem PySem.Spec PyProof.Rows L2 Z
/-! ### the changes that are found -/
theorem lpR_spec {α R : Type} {f : Unit → α → Except R Unit} : ∀ {xs : List α} {r : R}, lpR f xs () = .error r → ∃ x ∈ xs, f () x = .error r
  | [], r, h => by simp [lpR] at h
  | x :: xs, r, h => by
    unfold lpR at h
    cases e : f () x with
    | ok u =>
      rw [e] at h
      obtain ⟨y, hy, h2⟩ := lpR_spec (xs := xs) h
      exact ⟨y, List.mem_cons_of_mem _ hy, h2⟩
    | error r2 =>
      rw [e] at h
      cases h
      exact ⟨x, List.mem_cons_self, e⟩
theorem changes_spec {inner row : List Int} {free : List Bool} (h : m_changes_of inner free = some row) : (∀ r ∈ row, r % 9973 ≠ 0) ∧ m_is_just inner row free = true := by
  unfold m_changes_of at h
  split at h
  · cases h
  · rename_i r_ he
    subst h
    obtain ⟨x, hx, h2⟩ := lpR_spec he
    split at h2
    · rename_i hc
      cases h2
      simp only [Bool.and_eq_true, List.all_map, List.all_eq_true, Function.comp, id, Bool.not_eq_true', decide_eq_false_iff_not] at hc
      exact ⟨hc.2.1, hc.2.2⟩
    · cases h2
theorem subs_mem : ∀ {s l : List Int}, s.Sublist l → s ∈ subs l
  | _, _, .slnil => by simp [subs]
  | _, _, .cons a h => by unfold subs; exact List.mem_append.mpr (.inl (subs_mem h))
  | _, _, .cons₂ a h => by unfold subs; exact List.mem_append.mpr (.inr (List.mem_map.mpr ⟨_, subs_mem h, rfl⟩))
theorem okc_of {pre s : List Int} (hp : pre.Sublist [0, 1, 2]) (hs : s.Sublist [3, 4, 5, 6, 7]) (a b : Bool) : okc (pre ++ s) a b = true := by
  have hk : okp pre = true := by
    have := subs_mem hp
    simp only [subs, List.map_cons, List.map_nil, List.nil_append, List.cons_append, List.append_nil, List.mem_cons, List.not_mem_nil, or_false] at this
    rcases this with e | e | e | e | e | e | e | e <;> subst e
    · exact br0
    · exact br3
    · exact br2
    · exact br6
    · exact br1
    · exact br5
    · exact br4
    · exact br7
  have h2 := List.all_eq_true.mp hk s (subs_mem hs)
  simp only [Bool.and_eq_true] at h2
  cases a <;> cases b
  · exact h2.2
  · exact h2.1.2
  · exact h2.1.1.2
  · exact h2.1.1.1
theorem changes_some {inner : List Int} {a b : Bool} (h : inner.Sublist [0, 1, 2, 3, 4, 5, 6, 7]) (h0 : inner ≠ []) (h3 : 3 ≤ inner.length + a.toNat + b.toNat) : ∃ row, m_changes_of inner [a, b] = some row ∧ row.length = inner.length := by
  obtain ⟨p, s, rfl, hp, hs⟩ := List.sublist_append_iff.mp (show inner.Sublist ([0, 1, 2] ++ [3, 4, 5, 6, 7]) from h)
  have hk := okc_of hp hs a b
  unfold okc at hk
  rw [Bool.or_eq_true, Bool.or_eq_true] at hk
  rcases hk with (hk | hk) | hk
  · have := of_decide_eq_true hk; omega
  · exact absurd (List.isEmpty_iff.mp hk) h0
  · split at hk
    · cases hk
    · rename_i row he
      exact ⟨row, he, by simpa using hk⟩
/-! ### sorted places: those of words, those of sums -/
theorem len_split {α : Type} (p : α → Bool) : ∀ l : List α, l.length = (l.filter p).length + (l.filter fun x => !p x).length
  | [] => rfl
  | x :: l => by
    have := len_split p l
    cases h : p x <;> simp [List.filter_cons, h] <;> omega
structure Qs (many : Int) (qs q1 : List Int) (a b : Bool) : Prop where
  m1 : 1 ≤ many
  m2 : many ≤ 8
  sub : qs.Sublist (rg 0 (many + 2))
  q : ∃ q2, qs = q1 ++ q2 ∧ q2 = (if a then [many] else []) ++ (if b then [many + 1] else [])
  s1 : q1.Sublist (rg 0 many)
theorem qs_of {many : Int} {qs : List Int} (h1 : 1 ≤ many) (h2 : many ≤ 8) (h : qs.Sublist (rg 0 (many + 2))) : ∃ q1 a b, Qs many qs q1 a b := by
  have e : rg 0 (many + 2) = rg 0 many ++ [many, many + 1] := by
    have : many = 1 ∨ many = 2 ∨ many = 3 ∨ many = 4 ∨ many = 5 ∨ many = 6 ∨ many = 7 ∨ many = 8 := by omega
    rcases this with e | e | e | e | e | e | e | e <;> subst e <;> decide
  have h' := h
  rw [e] at h'
  obtain ⟨q1, q2, hq, s1, s2⟩ := List.sublist_append_iff.mp h'
  have hc : q2 = [] ∨ q2 = [many] ∨ q2 = [many + 1] ∨ q2 = [many, many + 1] := by
    have := subs_mem s2
    simp only [subs, List.map_cons, List.map_nil, List.nil_append, List.cons_append, List.append_nil, List.mem_cons, List.not_mem_nil, or_false] at this
    rcases this with e | e | e | e
    · exact .inl e
    · exact .inr (.inr (.inl e))
    · exact .inr (.inl e)
    · exact .inr (.inr (.inr e))
  rcases hc with e | e | e | e
  · exact ⟨q1, false, false, h1, h2, h, ⟨q2, hq, e⟩, s1⟩
  · exact ⟨q1, true, false, h1, h2, h, ⟨q2, hq, e⟩, s1⟩
  · exact ⟨q1, false, true, h1, h2, h, ⟨q2, hq, e⟩, s1⟩
  · exact ⟨q1, true, true, h1, h2, h, ⟨q2, hq, e⟩, s1⟩
section
variable {many : Int} {qs q1 ps : List Int} {a b : Bool}
theorem Qs.in1 (Q : Qs many qs q1 a b) {x : Int} (h : x ∈ q1) : 0 ≤ x ∧ x < many := rg_mem.mp (Q.s1.subset h)
theorem Qs.inner (Q : Qs many qs q1 a b) : (qs.filter fun x => decide (x < many)) = q1 := by
  obtain ⟨q2, e, e2⟩ := Q.q
  rw [e, List.filter_append, List.filter_eq_self.mpr (fun x hx => decide_eq_true (Q.in1 hx).2), e2]
  cases a <;> cases b <;> simp [List.filter_cons] <;> omega
theorem Qs.memA (Q : Qs many qs q1 a b) : decide (many ∈ qs) = a := by
  obtain ⟨q2, e, e2⟩ := Q.q
  have : many ∉ q1 := fun h => by have := Q.in1 h; omega
  rw [e, e2]
  cases a <;> cases b <;> simp [this] <;> omega
theorem Qs.memB (Q : Qs many qs q1 a b) : decide (many + 1 ∈ qs) = b := by
  obtain ⟨q2, e, e2⟩ := Q.q
  have : many + 1 ∉ q1 := fun h => by have := Q.in1 h; omega
  rw [e, e2]
  cases a <;> cases b <;> simp [this] <;> omega
theorem Qs.len (Q : Qs many qs q1 a b) : qs.length = q1.length + a.toNat + b.toNat := by
  obtain ⟨q2, e, e2⟩ := Q.q
  rw [e, e2]
  cases a <;> cases b <;> simp
theorem Qs.eight (Q : Qs many qs q1 a b) : q1.Sublist [0, 1, 2, 3, 4, 5, 6, 7] := by
  refine Q.s1.trans ?_
  have h1 := Q.m1
  have h2 := Q.m2
  have : many = 1 ∨ many = 2 ∨ many = 3 ∨ many = 4 ∨ many = 5 ∨ many = 6 ∨ many = 7 ∨ many = 8 := by omega
  rcases this with e | e | e | e | e | e | e | e <;> subst e <;> exact List.isSublist_iff_sublist.mp (by decide)
def jS (qs q1 : List Int) : Bool := decide ((qs.length : Int) < 3) || decide (q1 = [])
theorem Qs.jin (Q : Qs many qs q1 a b) (hp : ps.Perm qs) : (((sortI ps).filter fun x => (decide (x < many))).map fun x => x) = q1 := by
  rw [sortI_of hp Q.sub, List.map_id', Q.inner]
theorem Qs.small (Q : Qs many qs q1 a b) (hp : ps.Perm qs) : jSmall many ps = jS qs q1 := by
  unfold jSmall jS
  rw [Q.jin hp]
  have e : (q1.length : Int) + (((ps.filter fun x => (decide (many ≤ x))).map fun x => x).length : Int) = (qs.length : Int) := by
    rw [List.map_id', (hp.filter _).length_eq]
    have h1 := Q.inner
    have h2 : qs.length = (qs.filter fun x => decide (x < many)).length + (qs.filter fun x => decide (many ≤ x)).length := by
      have := len_split (fun x => decide (x < many)) qs
      rw [this]; congr 2
      apply List.filter_congr
      intro x _
      by_cases h : x < many
      · simp [h] <;> omega
      · simp [h] <;> omega
    rw [h1] at h2; omega
  rw [e]
theorem mem_flt {many x : Int} {ps : List Int} (h : many ≤ x) : decide (x ∈ ((ps.filter fun x => (decide (many ≤ x))).map fun x => x)) = decide (x ∈ ps) := by
  rw [List.map_id']
  exact decide_eq_decide.mpr ⟨fun hh => (List.mem_filter.mp hh).1, fun hh => List.mem_filter.mpr ⟨hh, decide_eq_true h⟩⟩
theorem Qs.ch (Q : Qs many qs q1 a b) (hp : ps.Perm qs) : jCh many ps = m_changes_of q1 [a, b] := by
  unfold jCh
  rw [Q.jin hp, mem_flt (Int.le_refl _), mem_flt (by omega), decide_eq_decide.mpr hp.mem_iff, decide_eq_decide.mpr (hp.mem_iff (a := many + 1)), Q.memA, Q.memB]
theorem Qs.some (Q : Qs many qs q1 a b) (h : jS qs q1 = false) : ∃ row, m_changes_of q1 [a, b] = some row ∧ row.length = q1.length := by
  unfold jS at h
  rw [Bool.or_eq_false_iff] at h
  have h1 := of_decide_eq_false h.1
  have h2 := of_decide_eq_false h.2
  exact changes_some Q.eight h2 (by have := Q.len; omega)
end
end B
set_option Elab.async false
set_option linter.all false
set_option maxRecDepth 100000
set_option maxHeartbeats 4000000
namespace B
open PySem PySem.Spec PyProof.Rows L2 Z
/-! ### the words that are written -/
def wr (z : List Int) (ps : List (Int × Int)) : List Int := ps.foldl (fun s x => s.set x.1.toNat (x.2 % 9973)) z
theorem wr_len : ∀ (ps : List (Int × Int)) (z : List Int), (wr z ps).length = z.length
  | [], z => rfl
  | x :: ps, z => by
    show (wr (z.set x.1.toNat (x.2 % 9973)) ps).length = _
    rw [wr_len ps, List.length_set]
theorem wr_out : ∀ (ps : List (Int × Int)) (z : List Int) (i : Nat), (∀ x ∈ ps, x.1.toNat ≠ i) → (wr z ps).getD i 0 = z.getD i 0
  | [], z, i, _ => rfl
  | x :: ps, z, i, h => by
    show (wr (z.set x.1.toNat (x.2 % 9973)) ps).getD i 0 = _
    rw [wr_out ps _ i (fun y hy => h y (List.mem_cons_of_mem _ hy)), List.getD_eq_getElem?_getD, List.getD_eq_getElem?_getD, List.getElem?_set_ne (h x List.mem_cons_self)]
theorem wr_in : ∀ (ps : List (Int × Int)) (z : List Int), (∀ x ∈ ps, 0 ≤ x.1 ∧ x.1 < z.length) → (ps.map (·.1)).Nodup → ∀ x ∈ ps, (wr z ps).getD x.1.toNat 0 = x.2 % 9973
  | [], z, _, _, x, hx => by cases hx
  | y :: ps, z, hr, hn, x, hx => by
    have hn2 := List.nodup_cons.mp hn
    have hy := hr y List.mem_cons_self
    show (wr (z.set y.1.toNat (y.2 % 9973)) ps).getD x.1.toNat 0 = _
    rcases List.mem_cons.mp hx with e | hx
    · subst e
      rw [wr_out ps _ _ (fun w hw e => hn2.1 (List.mem_map.mpr ⟨w, hw, by have := hr w (List.mem_cons_of_mem _ hw); dsimp only; omega⟩))]
      simp [List.getD_eq_getElem?_getD, List.getElem?_set, show x.1.toNat < z.length by omega]
    · exact wr_in ps _ (fun w hw => by rw [List.length_set]; exact hr w (List.mem_cons_of_mem _ hw)) hn2.2 x hx
theorem wr_sum : ∀ (ps : List (Int × Int)) (z : List Int), (∀ x ∈ ps, 0 ≤ x.1 ∧ x.1 < z.length ∧ z.getD x.1.toNat 0 = 0) → (ps.map (·.1)).Nodup → (wr z ps).sum % 9973 = (z.sum + (ps.map (·.2)).sum) % 9973
  | [], z, _, _ => by simp [wr]
  | y :: ps, z, hr, hn => by
    have hn2 := List.nodup_cons.mp hn
    have hy := hr y List.mem_cons_self
    show (wr (z.set y.1.toNat (y.2 % 9973)) ps).sum % 9973 = _
    rw [wr_sum ps _ (fun w hw => ?_) hn2.2, sum_set _ _ _ (by omega), hy.2.2, List.map_cons, List.sum_cons]
    · omega
    · have hw2 := hr w (List.mem_cons_of_mem _ hw)
      refine ⟨hw2.1, by rw [List.length_set]; exact hw2.2.1, ?_⟩
      have hne : y.1.toNat ≠ w.1.toNat := fun e => hn2.1 (List.mem_map.mpr ⟨w, hw, by show w.1 = y.1; omega⟩)
      rw [List.getD_eq_getElem?_getD, List.getElem?_set_ne hne, ← List.getD_eq_getElem?_getD]; exact hw2.2.2
theorem wr_w2 : ∀ (ps : List (Int × Int)) (z : List Int), (∀ x ∈ ps, 0 ≤ x.1 ∧ x.1 < z.length ∧ z.getD x.1.toNat 0 = 0) → (ps.map (·.1)).Nodup → (w2 0 (wr z ps)) % 9973 = (w2 0 z + (ps.map fun x => (x.1 + 1) * x.2).sum) % 9973
  | [], z, _, _ => by simp [wr]
  | y :: ps, z, hr, hn => by
    have hn2 := List.nodup_cons.mp hn
    have hy := hr y List.mem_cons_self
    show (w2 0 (wr (z.set y.1.toNat (y.2 % 9973)) ps)) % 9973 = _
    rw [wr_w2 ps _ (fun w hw => ?_) hn2.2, w2_set _ _ _ _ (by omega), hy.2.2, List.map_cons, List.sum_cons]
    · have h1 := mul_mod_eq (y.1 + 1) (y.2 % 9973) y.2 (Int.emod_emod_of_dvd _ (Int.dvd_refl _))
      rw [show (((0 : Nat) : Int) + (y.1.toNat : Int) + 1) = y.1 + 1 by omega, Int.sub_zero]; omega
    · have hw2 := hr w (List.mem_cons_of_mem _ hw)
      refine ⟨hw2.1, by rw [List.length_set]; exact hw2.2.1, ?_⟩
      have hne : y.1.toNat ≠ w.1.toNat := fun e => hn2.1 (List.mem_map.mpr ⟨w, hw, by show w.1 = y.1; omega⟩)
      rw [List.getD_eq_getElem?_getD, List.getElem?_set_ne hne, ← List.getD_eq_getElem?_getD]; exact hw2.2.2
section
variable {many : Int} {qs q1 ps : List Int} {a b : Bool}
def zs (many : Int) : List Int := List.replicate many.toNat 0
def ww (many : Int) (q1 row : List Int) : List Int := wr (zs many) (q1.zip row)
theorem Qs.judge (Q : Qs many qs q1 a b) (hp : ps.Perm qs) : m_judge_noticed many ps = if jS qs q1 = true then none else Option.some (m_block_of (zs many), m_block_of (ww many q1 ((m_changes_of q1 [a, b]).getD []))) := by
  have h := Q.small hp
  have hc := Q.ch hp
  have hi := Q.jin hp
  unfold jSmall at h
  unfold jCh at hc
  unfold m_judge_noticed
  rw [h, hc, hi, rep_eq]
  rfl
theorem Qs.nd (Q : Qs many qs q1 a b) : q1.Nodup := Q.s1.nodup (rg_nodup _ _)
theorem zip_fst : ∀ {x y : List Int}, y.length = x.length → (x.zip y).map (·.1) = x
  | [], [], _ => rfl
  | x :: xs, y :: ys, h => by rw [List.zip_cons_cons, List.map_cons, zip_fst (by simpa using h)]
  | [], _ :: _, h => by simp at h
  | _ :: _, [], h => by simp at h
theorem zip_snd : ∀ {x y : List Int}, y.length = x.length → (x.zip y).map (·.2) = y
  | [], [], _ => rfl
  | x :: xs, y :: ys, h => by rw [List.zip_cons_cons, List.map_cons, zip_snd (by simpa using h)]
  | [], _ :: _, h => by simp at h
  | _ :: _, [], h => by simp at h
theorem zs_len (h : 1 ≤ many) : ((zs many).length : Int) = many := by unfold zs; rw [List.length_replicate]; omega
theorem zs_wds (h : many ≤ 8) : Wds (zs many) := by
  unfold zs
  refine ⟨by rw [List.length_replicate]; omega, fun w hw => ?_⟩
  rw [List.eq_of_mem_replicate hw]; decide
theorem zs_at (i : Nat) : (zs many).getD i 0 = 0 := by
  unfold zs
  rw [List.getD_eq_getElem?_getD, List.getElem?_replicate]
  split <;> rfl
theorem wr_wds : ∀ (ps : List (Int × Int)) (z : List Int), Wds z → Wds (wr z ps)
  | [], z, h => h
  | x :: ps, z, h => wr_wds ps _ ⟨by rw [List.length_set]; exact h.1, (set_in (n := z.length) ⟨rfl, h.2⟩ (mod_in _)).2⟩
theorem Qs.shows (Q : Qs many qs q1 a b) (h : jS qs q1 = false) : ∃ row, m_changes_of q1 [a, b] = Option.some row ∧ Wds (ww many q1 row) ∧ ((ww many q1 row).length : Int) = many ∧ dif many (m_block_of (zs many)) (m_block_of (ww many q1 row)) = qs := by
  obtain ⟨row, hr, hl⟩ := Q.some h
  obtain ⟨hnz, hj⟩ := changes_spec hr
  have hlen : ((ww many q1 row).length : Int) = many := by unfold ww; rw [wr_len]; exact zs_len Q.m1
  have hz : ∀ x ∈ q1.zip row, 0 ≤ x.1 ∧ x.1 < (zs many).length ∧ (zs many).getD x.1.toNat 0 = 0 := fun x hx => by
    have := Q.in1 (List.of_mem_zip hx).1
    exact ⟨this.1, by rw [zs_len Q.m1]; exact this.2, zs_at _⟩
  have hnd : ((q1.zip row).map (·.1)).Nodup := by rw [zip_fst hl]; exact Q.nd
  have hzl := zs_len Q.m1
  have s1 := wr_sum (q1.zip row) (zs many) hz hnd
  have s2 := wr_w2 (q1.zip row) (zs many) hz hnd
  rw [zip_snd hl, show (zs many).sum = 0 from rep_sum _, Int.zero_add] at s1
  rw [show w2 0 (zs many) = 0 from rep_w2 _ _, Int.zero_add] at s2
  unfold m_is_just at hj
  have hj := of_decide_eq_true hj
  have ja := (List.cons.inj hj).1
  have jb := (List.cons.inj (List.cons.inj hj).2).1
  refine ⟨row, hr, wr_wds _ _ (zs_wds Q.m2), hlen, dif_eq Q.sub fun x h0 hx => ?_⟩
  obtain ⟨q2, e, e2⟩ := Q.q
  rcases three h0 hx with hx | hx | hx
  · rw [blk_at h0 (by omega), blk_at h0 (by omega), ixI_pos h0 (by omega), ixI_pos h0 (by omega), zs_at]
    have hq2 : x ∈ qs ↔ x ∈ q1 := by
      rw [e, List.mem_append, e2]
      constructor
      · rintro (h | h)
        · exact h
        · exfalso
          revert h
          cases a <;> cases b <;> simp <;> omega
      · exact .inl
    rw [hq2]
    by_cases hm : x ∈ q1
    · obtain ⟨p, hp, ep⟩ := List.mem_map.mp (show x ∈ (q1.zip row).map (·.1) by rw [zip_fst hl]; exact hm)
      have hw := wr_in (q1.zip row) (zs many) (fun y hy => ⟨(hz y hy).1, (hz y hy).2.1⟩) hnd p hp
      rw [ep] at hw
      have := hnz p.2 (List.of_mem_zip hp).2
      unfold ww
      rw [hw]
      constructor
      · intro e; omega
      · intro e; exact absurd hm e
    · have : (ww many q1 row).getD x.toNat 0 = 0 := by
        unfold ww
        rw [wr_out _ _ _ (fun y hy e => hm ?_)]
        · exact zs_at _
        · have h1 := (List.of_mem_zip hy).1
          have h2 := Q.in1 h1
          have : y.1 = x := by omega
          rw [← this]; exact h1
      rw [this]
      simp [hm]
  · rw [blk_p (by omega), blk_p (by omega), hlen, hzl, show (zs many).sum = 0 from rep_sum _]
    have hA := Q.memA
    rw [← ja] at hA
    subst hx
    unfold ww
    by_cases hm : x ∈ qs
    · have h1 : ¬ row.sum % 9973 = 0 := by simpa [hm] using hA
      constructor
      · intro e; omega
      · intro e; exact absurd hm e
    · have h1 : row.sum % 9973 = 0 := by simpa [hm] using hA
      constructor
      · intro _; exact hm
      · intro _; omega
  · rw [blk_h (by omega), blk_h (by omega), hlen, hzl, show w2 0 (zs many) = 0 from rep_w2 _ _]
    have hB := Q.memB
    rw [← jb] at hB
    subst hx
    unfold ww
    by_cases hm : many + 1 ∈ qs
    · have h1 : ¬ ((q1.zip row).map fun x => (x.1 + 1) * x.2).sum % 9973 = 0 := by simpa [hm] using hB
      constructor
      · intro e; omega
      · intro e; exact absurd hm e
    · have h1 : ((q1.zip row).map fun x => (x.1 + 1) * x.2).sum % 9973 = 0 := by simpa [hm] using hB
      constructor
      · intro _; exact hm
      · intro _; omega
end
end B
set_option Elab.async false
set_option linter.all false
set_option maxRecDepth 100000
set_option maxHeartbeats 4000000
namespace B
open PySem PySem.Spec PyProof.Rows L2 Z
section
variable {many : Int} {qs q1 ps ps2 places : List Int} {a b : Bool}
theorem blk_ne (ws : List Int) : ¬ m_block_of ws = [] := fun h => by have := blk_len ws; rw [h] at this; simp at this
theorem wds_snoc {ws : List Int} (h : Wds ws) (hl : ws.length ≤ 39) : Wds (ws ++ [0]) := by
  refine ⟨by rw [List.length_append]; exact Nat.succ_le_of_lt (by omega), fun w hw => ?_⟩
  rcases List.mem_append.mp hw with h1 | h1
  · exact h.2 w h1
  · rw [List.mem_singleton.mp h1]; decide
theorem Qs.ok (Q : Qs many qs q1 a b) (hp : ps.Perm qs) : JOk many ps := by
  have hq := pls_of Q.m1 (by have := Q.m2; omega) Q.sub
  refine ⟨⟨hq.1, hq.2.1, fun p h => hq.2.2.1 p (hp.mem_iff.mp h), hp.nodup_iff.mpr hq.2.2.2.1, by rw [hp.length_eq]; exact hq.2.2.2.2⟩, fun h => ?_⟩
  rw [Q.small hp] at h
  obtain ⟨row, e, _⟩ := Q.some h
  rw [Q.ch hp, e]; rfl
theorem jokP (h1 : 1 ≤ many) (h2 : many ≤ 8) (hp : ps.Perm qs) (hq : qs.Sublist (rg 0 (many + 2))) : JOk many ps := by
  obtain ⟨q1, a, b, Q⟩ := qs_of h1 h2 hq
  exact Q.ok hp
theorem jokF (h1 : 1 ≤ many) (h2 : many ≤ 8) (hq : places.Sublist (rg 0 (many + 2))) (p : Int → Bool) : JOk many ((places.filter p).map fun x => x) := by
  rw [List.map_id']
  exact jokP h1 h2 (List.Perm.refl _) (List.filter_sublist.trans hq)
/-- with one place more -/
theorem more_perm {x : Int} (hq : places.Sublist (rg 0 (many + 2))) (hx : 0 ≤ x ∧ x < many + 2) (hn : x ∉ places) : ∃ qs, (places ++ [x]).Perm qs ∧ qs.Sublist (rg 0 (many + 2)) := by
  refine ⟨(rg 0 (many + 2)).filter fun y => decide (y ∈ places ++ [x]), ?_, List.filter_sublist⟩
  refine (List.perm_ext_iff_of_nodup ?_ ((rg_nodup _ _).filter _)).mpr fun y => ?_
  · refine List.nodup_append.mpr ⟨hq.nodup (rg_nodup _ _), by simp, fun y hy z hz e => ?_⟩
    rw [List.mem_singleton.mp hz] at e
    exact hn (e ▸ hy)
  · rw [List.mem_filter, rg_mem]
    constructor
    · intro h
      refine ⟨?_, decide_eq_true h⟩
      rcases List.mem_append.mp h with h | h
      · exact rg_mem.mp (hq.subset h)
      · rw [List.mem_singleton.mp h]; exact hx
    · intro h; exact of_decide_eq_true h.2
theorem jokA {x : Int} (h1 : 1 ≤ many) (h2 : many ≤ 8) (hq : places.Sublist (rg 0 (many + 2))) (hn : (!decide (x ∈ places)) = true) (hx : 0 ≤ x ∧ x < many + 2) : JOk many (places ++ [x]) := by
  obtain ⟨qs, h, h3⟩ := more_perm hq hx (by simpa using hn)
  exact jokP h1 h2 h h3
/-! ### what is found shows itself -/
theorem Qs.sv (Q : Qs many qs q1 a b) (hp : ps.Perm qs) (hp2 : ps2.Perm qs) : showsV (m_judge_noticed many ps) many ps2 = true := by
  have e1 := Q.judge hp
  have e2 := Q.judge hp2
  cases h : jS qs q1 with
  | true =>
    rw [h, if_pos rfl] at e1 e2
    rw [e1]
    show (m_judge_noticed many ps2).isNone = true
    rw [e2]; rfl
  | false =>
    rw [h, if_neg Bool.false_ne_true] at e1
    rw [e1]
    obtain ⟨row, hr, hw, hl, hd⟩ := Q.shows h
    rw [hr]
    show m_Hidden_shows (m_block_of (zs many), m_block_of (ww many q1 row)) many ps2 = true
    rw [shows_blk (zs_wds Q.m2) hw (zs_len Q.m1) hl, hd, sortI_of hp2 Q.sub]
    exact decide_eq_true rfl
theorem Qs.none_iff (Q : Qs many qs q1 a b) (hp : ps.Perm qs) : (m_judge_noticed many ps).isNone = jS qs q1 := by
  rw [Q.judge hp]
  cases jS qs q1 <;> rfl
theorem nv6 {found : Option (List Int × List Int)} (h1 : 1 ≤ many) (h2 : many ≤ 8) (hq : places.Sublist (rg 0 (many + 2))) (hf : m_judge_noticed many places = found) :
    (!decide (found.isNone = (decide ((places.length : Int) < 3) || decide (((places.filter fun x65 => decide (x65 < many)).map fun x65 => x65) = []))) || (found.isNone && false || !showsV found many places.reverse)) = false := by
  obtain ⟨q1, a, b, Q⟩ := qs_of h1 h2 hq
  rw [← hf, Q.sv (List.Perm.refl _) (List.reverse_perm _), Q.none_iff (List.Perm.refl _), List.map_id', Q.inner]
  unfold jS
  simp
theorem inner_sub {x : Int} (h1 : 1 ≤ many) (h2 : many ≤ 8) (hq : places.Sublist (rg 0 (many + 2))) (h : (m_judge_noticed many places).isNone = true) (p : Int → Bool) : (m_judge_noticed many ((places.filter p).map fun x => x)).isNone = true := by
  obtain ⟨q1, a, b, Q⟩ := qs_of h1 h2 hq
  rw [List.map_id']
  have hs : (places.filter p).Sublist (rg 0 (many + 2)) := List.filter_sublist.trans hq
  obtain ⟨q3, a3, b3, Q3⟩ := qs_of h1 h2 hs
  rw [Q.none_iff (List.Perm.refl _)] at h
  rw [Q3.none_iff (List.Perm.refl _)]
  unfold jS at h ⊢
  rw [Bool.or_eq_true] at h ⊢
  rcases h with h | h
  · left
    have := of_decide_eq_true h
    have h4 := List.length_filter_le p places
    exact decide_eq_true (by omega)
  · right
    have := of_decide_eq_true h
    refine decide_eq_true ?_
    rw [← Q3.inner, List.filter_eq_nil_iff]
    intro y hy
    rw [← Q.inner, List.filter_eq_nil_iff] at this
    exact this y (List.mem_filter.mp hy).1
theorem nv7 {found : Option (List Int × List Int)} {x : Int} (h1 : 1 ≤ many) (h2 : many ≤ 8) (hq : places.Sublist (rg 0 (many + 2))) (hf : m_judge_noticed many places = found) :
    (found.isNone && !(m_judge_noticed many ((places.filter fun x81 => !decide (x81 = x)).map fun x81 => x81)).isNone || !showsV (m_judge_noticed many ((places.filter fun x81 => !decide (x81 = x)).map fun x81 => x81)) many ((places.filter fun x87 => !decide (x87 = x)).map fun x87 => x87)) = false := by
  have hs : (places.filter fun y => !decide (y = x)).Sublist (rg 0 (many + 2)) := List.filter_sublist.trans hq
  obtain ⟨q1, a, b, Q⟩ := qs_of h1 h2 hs
  have e1 := Q.sv (List.Perm.refl _) (List.Perm.refl _)
  rw [List.map_id', e1]
  cases hn : found.isNone with
  | false => rfl
  | true =>
    have := inner_sub (x := x) h1 h2 hq (by rw [hf]; exact hn) (fun y => !decide (y = x))
    rw [List.map_id'] at this
    rw [this]; rfl
theorem nv8 {found : Option (List Int × List Int)} {x : Int} (h1 : 1 ≤ many) (h2 : many ≤ 8) (hq : places.Sublist (rg 0 (many + 2))) (hf : m_judge_noticed many places = found) (hx : 0 ≤ x ∧ x < many + 2) :
    (!decide (x ∈ places) && (!decide (((places.filter fun x65 => decide (x65 < many)).map fun x65 => x65) = []) && (!found.isNone && (m_judge_noticed many (places ++ [x])).isNone))) = false := by
  by_cases hm : x ∈ places
  · simp [hm]
  cases hn : found.isNone with
  | true => simp
  | false =>
    obtain ⟨q1, a, b, Q⟩ := qs_of h1 h2 hq
    obtain ⟨qs, hp, hqs⟩ := more_perm hq hx hm
    obtain ⟨q3, a3, b3, Q3⟩ := qs_of h1 h2 hqs
    rw [← hf, Q.none_iff (List.Perm.refl _)] at hn
    rw [Q3.none_iff hp]
    unfold jS at hn ⊢
    rw [Bool.or_eq_false_iff] at hn
    have n1 := of_decide_eq_false hn.1
    have n2 := of_decide_eq_false hn.2
    have l := hp.length_eq
    rw [List.length_append] at l
    have e1 : decide ((qs.length : Int) < 3) = false := decide_eq_false (by simp at l; omega)
    have e2 : decide (q3 = []) = false := by
      refine decide_eq_false fun e => n2 ?_
      rw [← Q3.inner, List.filter_eq_nil_iff] at e
      rw [← Q.inner, List.filter_eq_nil_iff]
      intro y hy
      exact e y (hp.mem_iff.mp (List.mem_append_left _ hy))
    rw [e1, e2]; simp
/-- what is hidden: two blocks that part at the places -/
theorem fp_of {fp : List Int × List Int} (h1 : 1 ≤ many) (h2 : many ≤ 8) (hq : places.Sublist (rg 0 (many + 2))) (hf : m_judge_noticed many places = some fp) : ∃ wa wb, fp = (m_block_of wa, m_block_of wb) ∧ (Wds wa ∧ (wa.length : Int) = many) ∧ (Wds wb ∧ (wb.length : Int) = many) ∧ dif many (m_block_of wa) (m_block_of wb) = places ∧ places ≠ [] := by
  obtain ⟨q1, a, b, Q⟩ := qs_of h1 h2 hq
  have e1 := Q.judge (List.Perm.refl _)
  rw [hf] at e1
  cases h : jS places q1 with
  | true => rw [h, if_pos rfl] at e1; cases e1
  | false =>
    rw [h, if_neg Bool.false_ne_true] at e1
    obtain ⟨row, hr, hw, hl, hd⟩ := Q.shows h
    rw [hr] at e1
    refine ⟨_, _, Option.some.inj e1, ⟨zs_wds Q.m2, zs_len Q.m1⟩, ⟨hw, hl⟩, hd, fun e => ?_⟩
    unfold jS at h
    rw [e] at h
    simp at h
theorem places_sort (hq : places.Sublist (rg 0 (many + 2))) : sortI places = places := sortI_of (List.Perm.refl _) hq
theorem nv9 {factor : Int} {words wa wb : List Int} (hf : 1 ≤ factor ∧ factor ≤ 9972) (hq : places.Sublist (rg 0 (many + 2))) (hl : (words.length : Int) = many) (ha : Wds wa ∧ (wa.length : Int) = many) (hb : Wds wb ∧ (wb.length : Int) = many) (hd : dif many (m_block_of wa) (m_block_of wb) = places) (hne : places ≠ []) :
    (!m_Hidden_shows (m_block_of (m__law_added ((m_words_in (m_block_of wa)).getD []) words), m_block_of (m__law_added ((m_words_in (m_block_of wb)).getD []) words)) many places || (!m_Hidden_shows (m_block_of (((m_words_in (m_block_of wa)).getD []).map fun x105 => factor * x105 % 9973), m_block_of (((m_words_in (m_block_of wb)).getD []).map fun x108 => factor * x108 % 9973)) many places || (!m_Hidden_shows (m_block_of wb, m_block_of wa) many places || m_Hidden_shows (m_block_of wa, m_block_of wa) many places))) = false := by
  rw [words_blk ha.1, words_blk hb.1]
  simp only [Option.getD_some]
  have l1 : ((m__law_added wa words).length : Int) = many := by rw [added_len]; omega
  have l2 : ((m__law_added wb words).length : Int) = many := by rw [added_len]; omega
  have l3 : ((wa.map fun x => factor * x % 9973).length : Int) = many := by rw [List.length_map]; exact ha.2
  have l4 : ((wb.map fun x => factor * x % 9973).length : Int) = many := by rw [List.length_map]; exact hb.2
  rw [shows_blk (added_wds ha.1) (added_wds hb.1) l1 l2, shows_blk (scaled_wds ha.1.1) (scaled_wds hb.1.1) l3 l4, shows_blk hb.1 ha.1 hb.2 ha.2, shows_blk ha.1 ha.1 ha.2 ha.2, dif_added ha.1 hb.1 ha.2 hb.2 hl, dif_scaled ⟨hf.1, by omega⟩ ha.1 hb.1 ha.2 hb.2]
  have e1 : dif many (m_block_of wb) (m_block_of wa) = dif many (m_block_of wa) (m_block_of wb) := dif_congr fun x _ _ => eq_comm
  have e2 : dif many (m_block_of wa) (m_block_of wa) = [] := by
    unfold dif
    rw [List.filter_eq_nil_iff]; intro x _; simp
  rw [e1, hd, e2, places_sort hq]
  simp [Ne.symm hne]
end
end B
set_option Elab.async false
set_option linter.all false
set_option maxRecDepth 100000
set_option maxHeartbeats 4000000
namespace B
open PySem PySem.Spec PyProof.Rows L2 Z
section
variable {many : Int} {places wa wb : List Int}
theorem cut_out {ps : List Int} {i : Int} (h : 0 ≤ i ∧ i < ps.length) : cutL ps none (some i) ++ cutL ps (some (i + 1)) none = ps.take i.toNat ++ ps.drop (i.toNat + 1) := by
  obtain ⟨n, rfl⟩ : ∃ n : Nat, i = (n : Int) := ⟨i.toNat, by omega⟩
  have e : ((n : Int) + 1) = ((n + 1 : Nat) : Int) := rfl
  unfold cutL
  rw [e, HT.sIx_nat, HT.sIx_nat, HT.sIx_none, HT.sIx_none, Nat.min_eq_left (by omega), Nat.min_eq_left (by omega)]
  simp only [List.drop_zero, Nat.sub_zero, Int.toNat_natCast]
  congr 1
  rw [List.take_of_length_le (by rw [List.length_drop]; omega)]
theorem cut_sub {ps : List Int} {i : Int} (h : 0 ≤ i ∧ i < ps.length) : (cutL ps none (some i) ++ cutL ps (some (i + 1)) none).Sublist ps := by
  rw [cut_out h]
  conv => rhs; rw [← List.take_append_drop i.toNat ps]
  refine (List.Sublist.refl _).append ?_
  rw [← List.drop_drop]; exact List.drop_sublist 1 _
theorem cut_less {ps : List Int} {i : Int} (h : 0 ≤ i ∧ i < ps.length) : (cutL ps none (some i) ++ cutL ps (some (i + 1)) none).length + 1 = ps.length := by
  rw [cut_out h, List.length_append, List.length_take, List.length_drop]; omega
theorem pls_cut {i : Int} (h1 : 1 ≤ many) (h2 : many ≤ 40) (hq : places.Sublist (rg 0 (many + 2))) (h : 0 ≤ i ∧ i < places.length) : Pls many (cutL places none (some i) ++ cutL places (some (i + 1)) none) :=
  pls_of h1 h2 ((cut_sub h).trans hq)
theorem nv10 (hq : places.Sublist (rg 0 (many + 2))) (ha : Wds wa ∧ (wa.length : Int) = many) (hb : Wds wb ∧ (wb.length : Int) = many) (hd : dif many (m_block_of wa) (m_block_of wb) = places) (hne : places ≠ []) :
    (!decide (((rg 0 (many + 2)).filter fun x116 => !decide (ixI 0 (m_block_of wa) x116 = ixI 0 (m_block_of wb) x116)).map (fun x116 => x116) = sortI places) || (((rg 0 (places.length : Int)).map fun x121 => m_Hidden_shows (m_block_of wa, m_block_of wb) many (cutL places none (some x121) ++ cutL places (some (x121 + 1)) none)).any id || m_Hidden_shows (cutL (m_block_of wa) (some 1) none, cutL (m_block_of wb) (some 1) none) many places)) = false := by
  have e1 : ((rg 0 (many + 2)).filter fun x116 => !decide (ixI 0 (m_block_of wa) x116 = ixI 0 (m_block_of wb) x116)).map (fun x116 => x116) = places := by rw [List.map_id']; exact hd
  rw [e1, places_sort hq]
  have e2 : ((rg 0 (places.length : Int)).map fun x121 => m_Hidden_shows (m_block_of wa, m_block_of wb) many (cutL places none (some x121) ++ cutL places (some (x121 + 1)) none)).any id = false := by
    rw [List.any_map, List.any_eq_false]
    intro x hx
    have hx2 := rg_mem.mp hx
    have hs := cut_sub (ps := places) (i := x) (by omega)
    have hl := cut_less (ps := places) (i := x) (by omega)
    simp only [Function.comp, id]
    rw [shows_blk ha.1 hb.1 ha.2 hb.2, hd, places_sort (hs.trans hq)]
    intro h
    have := of_decide_eq_true h
    rw [← this] at hl; omega
  have e3 : m_Hidden_shows (cutL (m_block_of wa) (some 1) none, cutL (m_block_of wb) (some 1) none) many places = false := by
    refine shows_len ?_
    have l := blk_len wa
    have : (cutL (m_block_of wa) (some 1) none).length = wa.length + 1 := by
      unfold cutL
      rw [show (some (1 : Int)) = some ((1 : Nat) : Int) from rfl, HT.sIx_nat, HT.sIx_none, List.length_take, List.length_drop, l]; omega
    rw [this]; omega
  rw [e2, e3]
  simp
end
end B
set_option Elab.async false
set_option linter.all false
set_option maxRecDepth 100000
set_option maxHeartbeats 4000000
namespace B
open PySem PySem.Spec PyProof.Rows L2 Z
section
variable {X : Cx} {σ : L2.St} {F W W1 : Hp} {e : Expr} {p p2 pos pos2 : Pos} {i : Int}
theorem ev_lsrg (hm : X.mg "list" = none) (hm2 : X.mg "range" = none) (h : EvS X e σ F W (.int i) W1) (hz : 0 ≤ i ∧ i ≤ 1000) (hg : Gl X "list" := by rfl) (hg2 : Gl X "range" := by rfl) (hc : X.calm = true := by rfl)
    (na : starEach [e] X.env = (false, eval e X.env) :: starEach [] X.env := by rfl) (nb : starEach [.Call (.Name "range" p2) [e] [] pos2] X.env = (false, eval (.Call (.Name "range" p2) [e] [] pos2) X.env) :: starEach [] X.env := by rfl) :
    EvS X (.Call (.Name "list" p) [.Call (.Name "range" p2) [e] [] pos2] [] pos) σ F W (eR false D.int (rg 0 i)) W1 := fun H w Q q =>
  tm_of (pe_listRg hc hg hm (prg_1 hg2 hm2 pe_tm na) nb) (h H w _ fun v F1 H1 g r => by
    cases r
    refine ⟨i, rfl, RgOk.of_le (Int.le_refl 0) (by omega) (by decide) hz.1, fun a ha => ?_⟩
    have e1 : rgV 0 i = (rg 0 i).map V.int := by unfold rgV rg; rw [List.map_map]; rfl
    rw [e1]
    exact q _ _ _ (g.trans (Go.new g.st ha)) (.sq (t := false) upd_same (Reps.of_ints _) (by rw [List.length_map, rg_len]; omega)))
end
/-! ### the slots of the end of law -/
structure Sl (σ : L2.St) (dl ml : Addr) (many : Int) (vo vp vf : V) : Prop where
  s1 : σ[1]? = some (some (.ref dl))
  s2 : σ[2]? = some (some (.int many))
  s7 : σ[7]? = some (some vo)
  s18 : σ[18]? = some (some vp)
  s20 : σ[20]? = some (some vf)
  s28 : σ[28]? = some (some (.ref ml))
  len : σ.length = 29
theorem Sl.place {σ : L2.St} {dl ml : Addr} {many : Int} {vo vp vf : V} (h : Sl σ dl ml many vo vp vf) (v : V) : Sl (σ.set 19 (some v)) dl ml many vo vp vf :=
  ⟨by rw [List.getElem?_set_ne (by decide)]; exact h.s1, by rw [List.getElem?_set_ne (by decide)]; exact h.s2, by rw [List.getElem?_set_ne (by decide)]; exact h.s7, by rw [List.getElem?_set_ne (by decide)]; exact h.s18, by rw [List.getElem?_set_ne (by decide)]; exact h.s20, by rw [List.getElem?_set_ne (by decide)]; exact h.s28, by rw [List.length_set]; exact h.len⟩
section
variable {W0 : Hp} {dl ml sa : Addr} {k : Nat} {o o2 : HO}
theorem WK_ml (h : dl ≠ ml) : WK (upd W0 ml o) dl sa k ml = some o := by unfold WK; rw [upd_ne (Ne.symm h)]; exact upd_same
theorem WK_set (h : dl ≠ ml) : upd (WK (upd W0 ml o) dl sa k) ml o2 = WK (upd W0 ml o2) dl sa k := by
  funext x
  unfold WK
  by_cases e1 : x = ml
  · subst e1; rw [upd_same, upd_ne (Ne.symm h), upd_same]
  · by_cases e2 : x = dl
    · subst e2; rw [upd_ne e1, upd_same, upd_same]
    · rw [upd_ne e1, upd_ne e2, upd_ne e2, upd_ne e1, upd_ne e1]
theorem WK_del (h : dl ≠ ml) (hm : W0 ml = none) : del (WK (upd W0 ml o) dl sa k) ml = WK W0 dl sa k := by
  funext x
  unfold del WK
  by_cases e1 : x = ml
  · subst e1; rw [if_pos rfl, upd_ne (Ne.symm h)]; exact hm.symm
  · rw [if_neg e1]
    by_cases e2 : x = dl
    · subst e2; rw [upd_same, upd_same]
    · rw [upd_ne e2, upd_ne e2, upd_ne e1]
theorem WK_new (h : dl ≠ ml) : upd (WK W0 dl sa k) ml o = WK (upd W0 ml o) dl sa k := by
  funext x
  unfold WK
  by_cases e1 : x = ml
  · subst e1; rw [upd_same, upd_ne (Ne.symm h), upd_same]
  · by_cases e2 : x = dl
    · subst e2; rw [upd_ne e1, upd_same, upd_same]
    · rw [upd_ne e1, upd_ne e2, upd_ne e2, upd_ne e1]
end
/-! ### the block with changed places -/
structure Mx (many : Int) (words pr ms : List Int) : Prop where
  len : (ms.length : Int) = many + 2
  at_ : ∀ x, 0 ≤ x → x < many + 2 → (0 ≤ ixI 0 ms x ∧ ixI 0 ms x < 9973) ∧ (ixI 0 ms x = ixI 0 (m_block_of words) x ↔ x ∉ pr)
section
variable {many : Int} {words places ms : List Int}
theorem mx0 (h1 : 1 ≤ many) (hw : Wds words) (hl : words.length = many.toNat) : Mx many words [] (m_block_of words) := by
  refine ⟨by rw [blk_len]; omega, fun x h0 hx => ⟨?_, by simp⟩⟩
  rcases three h0 hx with h | h | h
  · rw [blk_at h0 (by omega)]; exact at_in hw.2 x
  · rw [blk_p (by omega)]; exact mod_in _
  · rw [blk_h (by omega)]; exact mod_in _
theorem set_at {ms : List Int} {x y v : Int} (hx : 0 ≤ x ∧ x < ms.length) (hy : 0 ≤ y ∧ y < ms.length) : ixI 0 (ms.set x.toNat v) y = if y = x then v else ixI 0 ms y := by
  rw [ixI_pos hy.1 (by rw [List.length_set]; exact hy.2), ixI_pos hy.1 hy.2, List.getD_eq_getElem?_getD, List.getD_eq_getElem?_getD]
  by_cases e : y = x
  · subst e
    rw [if_pos rfl, List.getElem?_set_self (by omega)]; rfl
  · rw [if_neg e, List.getElem?_set_ne (by omega)]
theorem mx_step {i : Nat} {x t : Int} (hq : places.Sublist (rg 0 (many + 2))) (hx : places[i]? = some x) (M : Mx many words (places.take i) ms) (ht : 0 ≤ t ∧ t < 9972) : Mx many words (places.take (i + 1)) (ms.set x.toNat ((ixI 0 ms x + 1 + t) % 9973)) := by
  have hr := rg_mem.mp (hq.subset (List.mem_of_getElem? hx))
  have hnd : places.Nodup := hq.nodup (rg_nodup _ _)
  have hi := (List.getElem?_eq_some_iff.mp hx).1
  have hsp : places.take (i + 1) = places.take i ++ [x] := by rw [List.take_add_one, hx]; rfl
  have hn : x ∉ places.take i := by
    have := hnd.sublist (List.take_sublist (i + 1) places)
    rw [hsp] at this
    have := (List.nodup_append.mp this).2.2
    intro hm
    exact this x hm x (by simp) rfl
  have hml := M.len
  refine ⟨by rw [List.length_set]; exact hml, fun y h0 hy => ?_⟩
  rw [set_at (by omega) (by omega)]
  have hm := M.at_ y h0 hy
  by_cases e : y = x
  · subst e
    rw [if_pos rfl]
    refine ⟨mod_in _, ?_⟩
    have h1 := hm.2.mpr hn
    rw [← h1, hsp]
    constructor
    · intro h; omega
    · intro h; exact absurd (List.mem_append_right _ (List.mem_singleton.mpr rfl)) h
  · rw [if_neg e]
    refine ⟨hm.1, ?_⟩
    rw [hm.2, hsp]
    simp [e]
theorem ext_at {a b : List Int} (hl : a.length = b.length) (h : ∀ x : Int, 0 ≤ x → x < a.length → ixI 0 a x = ixI 0 b x) : a = b := by
  apply List.ext_getElem hl
  intro i h1 h2
  have := h (i : Int) (by omega) (by omega)
  rw [ixI_nat h1, ixI_nat h2] at this
  exact this
theorem isn0 (h1 : 1 ≤ many) (h2 : many ≤ 8) : (m_judge_noticed many []).isNone = true := by
  obtain ⟨q1, a, b, Q⟩ := qs_of h1 h2 (List.nil_sublist (rg 0 (many + 2)))
  rw [Q.none_iff (List.Perm.refl _)]; rfl
theorem jok0 (h1 : 1 ≤ many) (h2 : many ≤ 8) : JOk many [] := jokP h1 h2 (List.Perm.refl _) (List.nil_sublist _)
theorem fin0 (h1 : 1 ≤ many) (h2 : many ≤ 8) : (true && ((decide ((m_block_of ([] : List Int)) = ((0 : Int) :: ((0 : Int) :: ([] : List Int))))) && ((decide ((m_words_in ((0 : Int) :: ((0 : Int) :: ([] : List Int)))) = (some ([] : List Int)))) && (!((m_judge_noticed (many) (rg 0 (many + (2 : Int))))).isNone)))) = true := by
  obtain ⟨q1, a, b, Q⟩ := qs_of h1 h2 (List.Sublist.refl (rg 0 (many + 2)))
  have e1 : m_block_of [] = [0, 0] := by decide
  have e2 : m_words_in [0, 0] = some [] := by decide
  have e3 : (m_judge_noticed many (rg 0 (many + 2))).isNone = false := by
    rw [Q.none_iff (List.Perm.refl _)]
    unfold jS
    rw [Bool.or_eq_false_iff]
    refine ⟨decide_eq_false (by rw [rg_len]; omega), decide_eq_false fun e => ?_⟩
    have h := Q.inner
    rw [e, List.filter_eq_nil_iff] at h
    exact h 0 (rg_mem.mpr (by omega)) (decide_eq_true (by omega))
  rw [e1, e2, e3]; rfl
end
end B
set_option Elab.async false
set_option linter.all false
set_option maxRecDepth 100000
set_option maxHeartbeats 4000000
namespace B
open PySem PySem.Spec PyProof.Rows L2 Z
section
variable {many : Int} {words places ms u q1 : List Int} {a b : Bool}
theorem few (Q : Qs many places q1 a b) (hw : Wds words) (hu : Wds u) (lw : (words.length : Int) = many) (lu : (u.length : Int) = many) (M : Mx many words places (m_block_of u)) (hj : jS places q1 = true) : places = [] := by
  have pa : (a = false) ↔ many ∉ places := by rw [← Q.memA]; simp
  have pb : (b = false) ↔ many + 1 ∉ places := by rw [← Q.memB]; simp
  have h1 := Q.m1
  have ea := (M.at_ many (by omega) (by omega)).2
  have eb := (M.at_ (many + 1) (by omega) (by omega)).2
  rw [blk_p (by omega), blk_p (by omega), lu, lw, ← pa] at ea
  rw [blk_h (by omega), blk_h (by omega), lu, lw, ← pb] at eb
  have inq : ∀ x, x < many → (x ∈ places ↔ x ∈ q1) := fun x hx => by
    rw [← Q.inner, List.mem_filter]
    exact ⟨fun h => ⟨h, decide_eq_true hx⟩, fun h => h.1⟩
  have ew : ∀ x, 0 ≤ x → x < many → (ixI 0 u x = ixI 0 words x ↔ x ∉ q1) := fun x h0 hx => by
    have := (M.at_ x h0 (by omega)).2
    rw [blk_at h0 (by omega), blk_at h0 (by omega), inq x hx] at this
    exact this
  have gd : ∀ (l : List Int) (x : Int), 0 ≤ x → x < l.length → l.getD x.toNat 0 = ixI 0 l x := fun l x h0 hx => (ixI_pos h0 hx).symm
  have hlen := Q.len
  obtain ⟨q2, e, e2⟩ := Q.q
  cases hq1 : q1 with
  | nil =>
    subst hq1
    have : u = words := ext_at (by omega) fun x h0 hx => (ew x h0 (by omega)).mpr (by simp)
    subst this
    rw [e, e2, ea.mp rfl, eb.mp rfl]; rfl
  | cons i r =>
    exfalso
    subst hq1
    have hs : places.length < 3 := by
      unfold jS at hj
      rw [Bool.or_eq_true] at hj
      rcases hj with h | h
      · have := of_decide_eq_true h; omega
      · exact absurd (of_decide_eq_true h) (by simp)
    have ri := Q.in1 (x := i) (by simp)
    have ui := at_in hu.2 i
    have wi := at_in hw.2 i
    have ni : ixI 0 u i ≠ ixI 0 words i := fun h => ((ew i ri.1 ri.2).mp h) (by simp)
    cases r with
    | nil =>
      have : u = words.set i.toNat (ixI 0 u i) := by
        refine ext_at (by rw [List.length_set]; omega) fun x h0 hx => ?_
        rw [set_at (by omega) (by omega)]
        by_cases h : x = i
        · rw [if_pos h, h]
        · rw [if_neg h]; exact (ew x h0 (by omega)).mpr (by simpa using h)
      have s1 : u.sum = words.sum + (ixI 0 u i - ixI 0 words i) := by
        have := congrArg List.sum this
        rw [sum_set _ _ _ (by omega), gd _ _ ri.1 (by omega)] at this; exact this
      have s2 : w2 0 u = w2 0 words + (i + 1) * (ixI 0 u i - ixI 0 words i) := by
        have := congrArg (w2 0) this
        rw [w2_set _ _ _ _ (by omega), gd _ _ ri.1 (by omega), show (((0 : Nat) : Int) + (i.toNat : Int) + 1) = i + 1 by omega] at this; exact this
      have na : a = true := by
        cases a with
        | true => rfl
        | false => have := ea.mpr rfl; exfalso; omega
      have nb : b = true := by
        cases b with
        | true => rfl
        | false =>
          have := eb.mpr rfl
          have h2 := Q.m2
          have := no_div (f := i + 1) (d := ixI 0 u i - ixI 0 words i) (by omega) (by omega) (by omega)
          exfalso; omega
      rw [na, nb] at hlen
      simp at hlen; omega
    | cons j r =>
      have hr : r = [] ∧ a = false ∧ b = false := by
        refine ⟨List.eq_nil_of_length_eq_zero ?_, ?_, ?_⟩
        · simp at hlen; omega
        · cases a with
          | false => rfl
          | true => simp at hlen; omega
        · cases b with
          | false => rfl
          | true => simp at hlen; omega
      obtain ⟨hr, ha, hb⟩ := hr
      subst hr
      have rj := Q.in1 (x := j) (by simp)
      have uj := at_in hu.2 j
      have wj := at_in hw.2 j
      have nj : ixI 0 u j ≠ ixI 0 words j := fun h => ((ew j rj.1 rj.2).mp h) (by simp)
      have nij : i ≠ j := by
        have := List.nodup_cons.mp Q.nd
        intro h; exact this.1 (by simp [h])
      have : u = (words.set i.toNat (ixI 0 u i)).set j.toNat (ixI 0 u j) := by
        refine ext_at (by rw [List.length_set, List.length_set]; omega) fun x h0 hx => ?_
        rw [set_at (by rw [List.length_set]; omega) (by rw [List.length_set]; omega), set_at (by omega) (by omega)]
        by_cases h : x = j
        · rw [if_pos h, h]
        · rw [if_neg h]
          by_cases h' : x = i
          · rw [if_pos h', h']
          · rw [if_neg h']; exact (ew x h0 (by omega)).mpr (by simp [h, h'])
      have gj : (words.set i.toNat (ixI 0 u i)).getD j.toNat 0 = ixI 0 words j := by
        rw [gd _ _ rj.1 (by rw [List.length_set]; omega), set_at (by omega) (by omega), if_neg (Ne.symm nij)]
      have s1 : u.sum = words.sum + (ixI 0 u i - ixI 0 words i) + (ixI 0 u j - ixI 0 words j) := by
        have := congrArg List.sum this
        rw [sum_set _ _ _ (by rw [List.length_set]; omega), sum_set _ _ _ (by omega), gd _ _ ri.1 (by omega), gj] at this; exact this
      have s2 : w2 0 u = w2 0 words + (i + 1) * (ixI 0 u i - ixI 0 words i) + (j + 1) * (ixI 0 u j - ixI 0 words j) := by
        have := congrArg (w2 0) this
        rw [w2_set _ _ _ _ (by rw [List.length_set]; omega), w2_set _ _ _ _ (by omega), gd _ _ ri.1 (by omega), gj, show (((0 : Nat) : Int) + (i.toNat : Int) + 1) = i + 1 by omega, show (((0 : Nat) : Int) + (j.toNat : Int) + 1) = j + 1 by omega] at this; exact this
      have p1 := ea.mpr ha
      have p2 := eb.mpr hb
      have h2 := Q.m2
      have p3 : ((i + 1) * ((ixI 0 u i - ixI 0 words i) + (ixI 0 u j - ixI 0 words j))) % 9973 = ((i + 1) * 0) % 9973 := mul_mod_eq _ _ _ (by omega)
      rw [Int.mul_add] at p3
      have p4 : ((j - i) * (ixI 0 u j - ixI 0 words j)) % 9973 = 0 := by
        have : (j - i) * (ixI 0 u j - ixI 0 words j) = (j + 1) * (ixI 0 u j - ixI 0 words j) - (i + 1) * (ixI 0 u j - ixI 0 words j) := by rw [← Int.sub_mul]; congr 1; omega
        rw [this]; omega
      by_cases hij : i < j
      · have := no_div (f := j - i) (d := ixI 0 u j - ixI 0 words j) (by omega) (by omega) p4
        omega
      · have p5 : ((i - j) * (ixI 0 u j - ixI 0 words j)) % 9973 = 0 := by
          have : (i - j) * (ixI 0 u j - ixI 0 words j) = -((j - i) * (ixI 0 u j - ixI 0 words j)) := by rw [← Int.neg_mul]; congr 1; omega
          rw [this]; omega
        have := no_div (f := i - j) (d := ixI 0 u j - ixI 0 words j) (by omega) (by omega) p5
        omega
theorem nv11 {found : Option (List Int × List Int)} (h1 : 1 ≤ many) (h2 : many ≤ 8) (hw : Wds words) (hl : words.length = many.toNat) (hq : places.Sublist (rg 0 (many + 2))) (hf : m_judge_noticed many places = found) (M : Mx many words places ms) :
    (((found).isNone && ((!decide (places = ([] : List Int))) && (!((m_words_in (ms))).isNone))) || ((!((m_words_in (ms))).isNone) && ((!(m_Hidden_shows ((m_block_of words), ms) many places)) && (!decide (places = ([] : List Int)))))) = false := by
  cases hm : m_words_in ms with
  | none => simp
  | some u =>
    obtain ⟨hu, e⟩ := words_some hm
    subst e
    have lw : (words.length : Int) = many := by omega
    have lu : (u.length : Int) = many := by have := M.len; rw [blk_len] at this; omega
    have hd : dif many (m_block_of words) (m_block_of u) = places := dif_eq hq fun x h0 hx => by rw [eq_comm]; exact (M.at_ x h0 hx).2
    rw [shows_blk hw hu lw lu, hd, places_sort hq]
    by_cases hp : places = []
    · simp [hp]
    · obtain ⟨q1, a, b, Q⟩ := qs_of h1 h2 hq
      have hj : jS places q1 = false := by
        cases h : jS places q1 with
        | false => rfl
        | true => exact absurd (few Q hw hu lw lu M h) hp
      rw [← hf, Q.none_iff (List.Perm.refl _), hj]
      simp
end
end B
set_option Elab.async false
set_option linter.all false
set_option maxRecDepth 100000
set_option maxHeartbeats 4000000
namespace B
open PySem PySem.Spec PyProof.Rows L2 Z
abbrev s27 : Stmt := topS 27
abbrev N27 : List Str := ["script", "draw", "many", "words", "others", "turn", "factor", "one", "two", "both", "zero", "at", "scaled", "word", "late", "swapped", "block", "longer", "places", "place", "found", "inner", "less", "first", "last", "moved", "wide", "apart", "mixed"]
theorem sc27 : FnScope N27 ["script"] (defScope s27) := ⟨rfl, rfl, rfl, by decide +kernel, rfl, by decide +kernel, by decide +kernel⟩
section
variable {P : Program} {w : World} {K : PySem.W.Frag} {mg : Str → Option Value} {base : Heap} {CN CH : Addr}
theorem tail_law (T : Txt K mg) (Y : Cl K mg CN CH) (Bf : Bo P w K mg base CN CH) (Ms : Me P w K mg base CN CH) (InH : InD P w K mg base 1 "Hidden" CH ["self", "one", "other"] rel_init) (C_words_in : FnD P w K mg base 2 "words_in" ["block"] (relP r_words_in)) (C_judge_noticed : FnD P w K mg base 4 "judge_noticed" ["many", "places"] (relP (r_judge_noticed CN CH))) (C_block_of : FnD P w K mg base 3 "block_of" ["words"] (relP r_block_of)) (C_take : FnD P w K mg base 2 "_law_take" ["draw", "many"] (r_take K))
    {f : Addr} {cdv : Value} {A : Around} {outer : List Env} {s : Shared} {H : Hp} {E : XK} (hr : Room 12 (A.deeper (envOfC "law" (defScope s27) s.heap.objs.size f cdv)))
    {ns words places : List Int} {many : Int} {found : Option (List Int × List Int)} {dl sa ml : Addr} {vo vp vf : V} {k0 : Nat} {σ : L2.St} {F W0 : Hp}
    (hz_ : ns.length ≤ 63) (hm1 : 1 ≤ many) (hm2 : many ≤ 8) (hWw : Wds words) (hwl : words.length = many.toNat) (hp_ : places.Sublist (rg 0 (many + 2))) (hfound : m_judge_noticed many places = found)
    (hs : Sl σ dl ml many vo vp vf) (h_sa : Rep F (.ref sa) (eZ K ns)) (h_one : Rep F vo (eR true D.int (m_block_of words))) (h_places : Rep F vp (eR false D.int places)) (h_found : Rep F vf (eV CN CH found))
    (wd : W0 dl = none) (wm : W0 ml = none) (hne : dl ≠ ml) :
    BlkS (cxOf CX0 P w K mg base N27 "law" (defScope s27) f cdv A outer s H E).nox ((defBody s27).drop 22) σ F (WK (upd W0 ml (.lst ((m_block_of words).map V.int))) dl sa k0) { nx := fun _ _ W2 => D.bl true = .non ∧ W2 = W0, rt := fun d' W2 => d' = D.bl true ∧ W2 = W0 } := by
  have nd_ := sc27.nd
  have hP := pls_of hm1 (by omega) hp_
  refine bl_for (n := places.length) (ei_row (ev_var (i := 18) hs.s18 h_places)) (by rw [List.length_map]) (fun i σ' F' W' => ∃ (ms : List Int) (k : Nat), Sl σ' dl ml many vo vp vf ∧ W' = WK (upd W0 ml (.lst (ms.map V.int))) dl sa k ∧ Mx many words (places.take i) ms) (fun F1 e => ⟨m_block_of words, k0, hs, rfl, mx0 hm1 hWw hwl⟩) (fun i d h σ' F1 W' e J v F2 e2 r => ?_) (fun σ' F1 W' e J => ?_)
  · rw [List.getElem?_map, Option.map_eq_some_iff] at h
    obtain ⟨x, hx, rfl⟩ := h
    obtain ⟨ms, k, hs, rfl, hM⟩ := J
    cases r
    have hxr := rg_mem.mp (hp_.subset (List.mem_of_getElem? hx))
    replace h_sa := (h_sa.mono e).mono e2
    refine tg_name (i := 19) ?_
    have h19 : (σ'.set 19 (some (.int x)))[19]? = some (some (.int x)) := by rw [List.getElem?_set_self]; have := hs.len; omega
    replace hs := hs.place (.int x)
    have hml := hM.len
    refine bl_setLW (j := x) (j' := x.toNat) (W1 := WK (upd W0 ml (.lst (ms.map V.int))) dl sa (k + 1)) (ev_mod (ev_add (ev_add (ev_ixW (ev_var (i := 28) hs.s28 (.ow _)) (ev_var (i := 19) h19 (.int _)) (WK_ml hne) (atI_map (f := V.int) (ixI_at (d := 0) (by omega))) (.int _)) ev_int) (ev_take C_take (hr.mono (by decide)) (ev_var (i := 1) hs.s1 (.ow _)) ev_int (by decide) hz_ h_sa)) ev_int (by decide)) (ev_var (i := 28) hs.s28 (.ow _)) (ev_var (i := 19) h19 (.int _)) (WK_ml hne) (by omega) (by rw [List.length_map]; omega) (fun v F3 e3 r3 => ?_)
    cases r3
    rw [WK_set hne, ← List.map_set]
    exact bl_nil ⟨_, k + 1, hs, rfl, mx_step hp_ hx hM (tk_in ns k (by decide))⟩
  · obtain ⟨ms, k, hs, rfl, hM⟩ := J
    rw [List.take_length] at hM
    have hml := hM.len
    replace h_sa := h_sa.mono e
    replace h_one := h_one.mono e
    replace h_places := h_places.mono e
    replace h_found := h_found.mono e
    refine bl_freeze (l := ml) (WK_ml hne) (Reps.of_ints ms) (by rw [List.length_map]; omega) (fun F_ e_ h_mixed => ?_)
    replace h_mixed : Rep F_ (.ref ml) (eR false D.int ms) := h_mixed
    replace h_sa := h_sa.mono e_
    replace h_one := h_one.mono e_
    replace h_places := h_places.mono e_
    replace h_found := h_found.mono e_
    rw [WK_del hne wm]
    refine bl_never (q := (((found).isNone && ((!decide (places = ([] : List Int))) && (!((m_words_in (ms))).isNone))) || ((!((m_words_in (ms))).isNone) && ((!(m_Hidden_shows ((m_block_of words), ms) many places)) && (!decide (places = ([] : List Int))))))) (et_w (ew_or (et_w (ew_and (et_V Bf (ev_var (i := 20) hs.s20 h_found) (hr.mono (by decide))) (fun hb1 => (ew_and (et_cm (ev_var (i := 18) hs.s18 h_places) (ev_lstR ([] : List Int) (ea_nilR (f := D.int)) (by simp [rg_len, enumT_len]; try omega)) (cm_ne (f := (eR false D.int)) (x := places) (y := ([] : List Int)) hr (Lw.row lw_int))) (fun hb2 => (ew_and1 (et_cm (ev_call C_words_in (hr.mono (by decide)) (ea_cons (ev_var (i := 28) hs.s28 h_mixed) ea_nil) (.inr ⟨false, (ms), rfl, rfl⟩)) ev_non (cm_isnotO (f := (eR true D.int)) (x := (m_words_in (ms))) (fun _ => rfl))))))))) (fun hb3 => (ew_or1 (et_w (ew_and (et_cm (ev_call C_words_in (hr.mono (by decide)) (ea_cons (ev_var (i := 28) hs.s28 h_mixed) ea_nil) (.inr ⟨false, (ms), rfl, rfl⟩)) ev_non (cm_isnotO (f := (eR true D.int)) (x := (m_words_in (ms))) (fun _ => rfl))) (fun hb4 => (ew_and (et_not (et_val (ev_showsH Y Ms (ev_is (d1 := eH CH ((m_block_of words), ms)) (ev_make InH (hr.mono (by decide)) (ea_cons (ev_var (i := 7) hs.s7 h_one) (ea_cons (ev_var (i := 28) hs.s28 h_mixed) ea_nil)) ⟨_, _, (m_block_of words), ms, rfl, rfl⟩) rfl) (hr.mono (by decide)) (ev_var (i := 2) hs.s2 (.int _)) (ev_var (i := 18) hs.s18 h_places) (by exact hP)))) (fun hb5 => (ew_and1 (et_cm (ev_var (i := 18) hs.s18 h_places) (ev_lstR ([] : List Int) (ea_nilR (f := D.int)) (by simp [rg_len, enumT_len]; try omega)) (cm_ne (f := (eR false D.int)) (x := places) (y := ([] : List Int)) hr (Lw.row lw_int))))))))))))) (nv11 hm1 hm2 hWw hwl hp_ hfound hM) ?_
    change BlkS _ _ _ _ (upd W0 dl (.lst [.ref sa, .int (k : Int)])) _
    refine bl_drop wd (.cons h_sa (.cons (.int _) .nil)) (by simp) (fun F_ e_ => ?_)
    exact bl_ret (ev_is (d1 := .bl true) (ev_and (ev_cm (ev_call C_judge_noticed (hr.mono (by decide)) (ea_cons (ev_var (i := 2) hs.s2 (.int _)) (ea_cons (ev_lstR ([] : List Int) (ea_nilR (f := D.int)) (by simp [rg_len, enumT_len]; try omega)) ea_nil)) (⟨false, (many), ([] : List Int), (by exact jok0 hm1 hm2), rfl, rfl⟩)) (ev_is (d1 := eV CN CH none) (ev_plain Y.plain Y.gn) rfl) (cm_eqV Y Ms (hr.mono (by decide)) (by exact isn0 hm1 hm2))) (fun hb6 => (ev_and (ev_cm (ev_call C_block_of (hr.mono (by decide)) (ea_cons (ev_lstR ([] : List Int) (ea_nilR (f := D.int)) (by simp [rg_len, enumT_len]; try omega)) ea_nil) (⟨false, ([] : List Int), (by exact ⟨by decide, fun _ h => absurd h (by simp)⟩), rfl, rfl⟩)) (ev_tupR ((0 : Int) :: ((0 : Int) :: ([] : List Int))) (ea_consR (f := D.int) (x := (0 : Int)) ev_int (ea_consR (f := D.int) (x := (0 : Int)) ev_int (ea_nilR (f := D.int)))) (by simp [rg_len, enumT_len]; try omega)) (cm_eq (f := (eR true D.int)) (x := (m_block_of ([] : List Int))) (y := ((0 : Int) :: ((0 : Int) :: ([] : List Int)))) hr (Lw.row lw_int))) (fun hb7 => (ev_and (ev_cm (ev_call C_words_in (hr.mono (by decide)) (ea_cons (ev_tupR ((0 : Int) :: ((0 : Int) :: ([] : List Int))) (ea_consR (f := D.int) (x := (0 : Int)) ev_int (ea_consR (f := D.int) (x := (0 : Int)) ev_int (ea_nilR (f := D.int)))) (by simp [rg_len, enumT_len]; try omega)) ea_nil) (.inr ⟨true, ((0 : Int) :: ((0 : Int) :: ([] : List Int))), rfl, rfl⟩)) (ev_is (d1 := (eO (eR true D.int)) (some ([] : List Int))) (ev_tupR ([] : List Int) (ea_nilR (f := D.int)) (by simp [rg_len, enumT_len]; try omega)) rfl) (cm_eq (f := (eO (eR true D.int))) (x := (m_words_in ((0 : Int) :: ((0 : Int) :: ([] : List Int))))) (y := (some ([] : List Int))) hr (Lw.opt (Lw.row lw_int) (fun _ => rfl) (fun _ => rfl)))) (fun hb8 => (ev_bop1 (ev_notV Bf (ev_call C_judge_noticed (hr.mono (by decide)) (ea_cons (ev_var (i := 2) hs.s2 (.int _)) (ea_cons (ev_lsrg T.list T.range (ev_add (ev_var (i := 2) hs.s2 (.int _)) ev_int) (by omega)) ea_nil)) (⟨false, (many), (rg 0 (many + (2 : Int))), (by exact jokP hm1 hm2 (List.Perm.refl _) (List.Sublist.refl _)), rfl, rfl⟩)) (hr.mono (by decide)))))))))) (congrArg D.bl (fin0 hm1 hm2))) ⟨rfl, rfl⟩
end
end B
set_option Elab.async false
set_option linter.all false
set_option maxRecDepth 100000
set_option maxHeartbeats 4000000
namespace B
open PySem PySem.Spec PyProof.Rows L2 Z
section
variable {P : Program} {w : World} {K : PySem.W.Frag} {mg : Str → Option Value} {base : Heap} {CN CH : Addr}
def r_law (K : PySem.W.Frag) : List D → D → Prop := fun ds d => ∃ ns : List Int, ns.length ≤ 63 ∧ ds = [eZ K ns] ∧ d = .bl true
theorem d_law (T : Txt K mg) (Y : Cl K mg CN CH) (Bf : Bo P w K mg base CN CH) (Ms : Me P w K mg base CN CH) (InH : InD P w K mg base 1 "Hidden" CH ["self", "one", "other"] rel_init) (C_block_of : FnD P w K mg base 3 "block_of" ["words"] (relP r_block_of)) (C_words_in : FnD P w K mg base 2 "words_in" ["block"] (relP r_words_in)) (C_judge_noticed : FnD P w K mg base 4 "judge_noticed" ["many", "places"] (relP (r_judge_noticed CN CH))) (C__law_added : FnD P w K mg base 1 "_law_added" ["one", "other"] (relP r__law_added)) (C_take : FnD P w K mg base 2 "_law_take" ["draw", "many"] (r_take K)) (C_pick : FnD P w K mg base 3 "_law_pick" ["draw", "items"] (r_pick K)) {f : Addr} {fd : FuncData} (Fu : Fun K "law" "law" s27 f fd) : FnOk P w K mg base CX0 13 f fd ["script"] (spG (relP (r_law K))) := by
  refine fn_ok Fu sc27 (fun ds F W d W' h => by obtain ⟨⟨_, _, rfl, _⟩, _⟩ := h; rfl) (fun cdv A outer s H E hr ds W d W' vs F h hv => ?_)
  have nd_ := sc27.nd
  obtain ⟨⟨ns, hz_, rfl, rfl⟩, rfl⟩ := h
  cases hv with | @cons v_script _ _ _ h_script hv => ?_
  cases hv
  refine bl_asgN (i := 1) (en_lst (ea_cons (ev_var (i := 0) rfl h_script) (ea_cons ev_int ea_nil)) (by simp)) (fun dl vs_draw F_ e_ h_draw wn_draw => ?_)
  replace h_script := h_script.mono e_
  cases h_draw with | @cons v1 _ _ _ h_sa h_draw => ?_
  cases h_draw with | cons h2 h_draw => ?_
  cases h_draw
  cases h2
  obtain ⟨sa, rfl⟩ : ∃ sa, v1 = .ref sa := by obtain ⟨sa, _, e, _⟩ := Rep.fz_inv h_sa; exact ⟨sa, e⟩
  change BlkS _ _ _ _ (WK W' dl sa 0) _
  refine bl_asgF (i := 2) (ev_add ev_int (ev_take C_take (hr.mono (by decide)) (ev_var (i := 1) rfl (.ow _)) ev_int (by first | decide | omega) hz_ h_sa)) (.int _) ?_
  have hm_ := tk_in ns 0 (many := 8) (by decide)
  generalize hmany : ((1 : Int) + (tk ns 0 (8 : Int))) = many
  replace hm_ : 1 ≤ many ∧ many ≤ 8 := by omega
  obtain ⟨hm1, hm2⟩ := hm_
  refine bl_par2 (i := 3) (j := 4) (ea_cons (ev_ofLc (lc_KM (own := [("turn", 5)]) (f := D.int) (g := D.int) (WK W' dl sa) (k0 := (0 + 1)) (fun (x1 : Int) (k_ : Nat) => (((tk ns k_ (9973 : Int)) : Int), (k_ + 1))) (ei_range1 T.range (ea_cons (ev_var (i := 2) rfl (.int _)) ea_nil) (by omega) (by omega)) (by first | assumption | omega | (simp only [List.length_map, enumT_len, rg_len]; omega)) (fun x1 hx2 k_ v_ F1_ e_ r3 => by
      replace h_script := h_script.mono e_
      replace h_sa := h_sa.mono e_
      have hx2m := rg_mem.mp hx2
      intro s_ H0_ C_ cl_ fp_
      cases r3
      refine tg_name (i := 5) ?_
      refine ⟨rfl, fun s_ H0_ C_ cl_ fp_ => ?_, fun ht_ s_ H0_ C_ cl_ fp_ => ?_⟩
      · exact ets_nil
      · exact (ev_take C_take (hr.mono (by decide)) (ev_var (i := 1) rfl (.ow _)) ev_int (by first | decide | omega) hz_ h_sa))) (ok := blkOk_by (N := N27) (sc := defScope s27) (by decide +kernel))) (ea_cons (ev_ofLc (lc_KM (own := [("turn", 5)]) (f := D.int) (g := D.int) (WK W' dl sa) (k0 := (lcK (fun (_ : Int) (k_ : Nat) => (true, k_)) (fun (x1 : Int) (k_ : Nat) => (((tk ns k_ (9973 : Int)) : Int), (k_ + 1))) (rg 0 many) (0 + 1)).2) (fun (x4 : Int) (k_ : Nat) => (((ixI 0 ((0 : Int) :: ((1 : Int) :: ((9972 : Int) :: ((tk ns k_ (9973 : Int)) :: ([] : List Int))))) (tk ns (k_ + 1) ((((0 : Int) :: ((1 : Int) :: ((9972 : Int) :: ((tk ns k_ (9973 : Int)) :: ([] : List Int)))))).length : Int))) : Int), ((k_ + 1) + 1))) (ei_range1 T.range (ea_cons (ev_var (i := 2) rfl (.int _)) ea_nil) (by omega) (by omega)) (by first | assumption | omega | (simp only [List.length_map, enumT_len, rg_len]; omega)) (fun x4 hx5 k_ v_ F1_ e_ r6 => by
      replace h_script := h_script.mono e_
      replace h_sa := h_sa.mono e_
      have hx5m := rg_mem.mp hx5
      intro s_ H0_ C_ cl_ fp_
      cases r6
      refine tg_name (i := 5) ?_
      refine ⟨rfl, fun s_ H0_ C_ cl_ fp_ => ?_, fun ht_ s_ H0_ C_ cl_ fp_ => ?_⟩
      · exact ets_nil
      · exact (ev_pick C_pick (hr.mono (by decide)) (ev_var (i := 1) rfl (.ow _)) (ev_lstR ((0 : Int) :: ((1 : Int) :: ((9972 : Int) :: ((tk ns k_ (9973 : Int)) :: ([] : List Int))))) (ea_consR (f := D.int) (x := (0 : Int)) ev_int (ea_consR (f := D.int) (x := (1 : Int)) ev_int (ea_consR (f := D.int) (x := (9972 : Int)) ev_int (ea_consR (f := D.int) (x := (tk ns k_ (9973 : Int))) (ev_take C_take (hr.mono (by decide)) (ev_var (i := 1) rfl (.ow _)) ev_int (by first | decide | omega) hz_ h_sa) (ea_nilR (f := D.int)))))) (by simp [rg_len, enumT_len]; try omega)) (by simp) hz_ h_sa))) (ok := blkOk_by (N := N27) (sc := defScope s27) (by decide +kernel))) ea_nil)) (fun v_words v_others F_ e7 h_words h_others => ?_)
  replace h_script := h_script.mono e7
  replace h_sa := h_sa.mono e7
  have hw_ : ((lcK (fun (_ : Int) (k_ : Nat) => (true, k_)) (fun (x1 : Int) (k_ : Nat) => (((tk ns k_ (9973 : Int)) : Int), (k_ + 1))) (rg 0 many) (0 + 1))).1.length = many.toNat ∧ ∀ y ∈ ((lcK (fun (_ : Int) (k_ : Nat) => (true, k_)) (fun (x1 : Int) (k_ : Nat) => (((tk ns k_ (9973 : Int)) : Int), (k_ + 1))) (rg 0 many) (0 + 1))).1, 0 ≤ y ∧ y < 9973 := ⟨by rw [lcK_len (fun _ _ => rfl), rg_len]; omega, lcK_all (P := fun y => 0 ≤ y ∧ y < 9973) (fun x k => tk_in ns k (by decide)) _ _⟩
  have ho_ : ((lcK (fun (_ : Int) (k_ : Nat) => (true, k_)) (fun (x4 : Int) (k_ : Nat) => (((ixI 0 ((0 : Int) :: ((1 : Int) :: ((9972 : Int) :: ((tk ns k_ (9973 : Int)) :: ([] : List Int))))) (tk ns (k_ + 1) ((((0 : Int) :: ((1 : Int) :: ((9972 : Int) :: ((tk ns k_ (9973 : Int)) :: ([] : List Int)))))).length : Int))) : Int), ((k_ + 1) + 1))) (rg 0 many) (lcK (fun (_ : Int) (k_ : Nat) => (true, k_)) (fun (x1 : Int) (k_ : Nat) => (((tk ns k_ (9973 : Int)) : Int), (k_ + 1))) (rg 0 many) (0 + 1)).2)).1.length = many.toNat ∧ ∀ y ∈ ((lcK (fun (_ : Int) (k_ : Nat) => (true, k_)) (fun (x4 : Int) (k_ : Nat) => (((ixI 0 ((0 : Int) :: ((1 : Int) :: ((9972 : Int) :: ((tk ns k_ (9973 : Int)) :: ([] : List Int))))) (tk ns (k_ + 1) ((((0 : Int) :: ((1 : Int) :: ((9972 : Int) :: ((tk ns k_ (9973 : Int)) :: ([] : List Int)))))).length : Int))) : Int), ((k_ + 1) + 1))) (rg 0 many) (lcK (fun (_ : Int) (k_ : Nat) => (true, k_)) (fun (x1 : Int) (k_ : Nat) => (((tk ns k_ (9973 : Int)) : Int), (k_ + 1))) (rg 0 many) (0 + 1)).2)).1, 0 ≤ y ∧ y < 9973 := ⟨by rw [lcK_len (fun _ _ => rfl), rg_len]; omega, lcK_all (P := fun y => 0 ≤ y ∧ y < 9973) (fun x k => ixI_P (pick_in ns k) (by decide)) _ _⟩
  generalize (lcK (fun (_ : Int) (k_ : Nat) => (true, k_)) (fun (x4 : Int) (k_ : Nat) => (((ixI 0 ((0 : Int) :: ((1 : Int) :: ((9972 : Int) :: ((tk ns k_ (9973 : Int)) :: ([] : List Int))))) (tk ns (k_ + 1) ((((0 : Int) :: ((1 : Int) :: ((9972 : Int) :: ((tk ns k_ (9973 : Int)) :: ([] : List Int)))))).length : Int))) : Int), ((k_ + 1) + 1))) (rg 0 many) (lcK (fun (_ : Int) (k_ : Nat) => (true, k_)) (fun (x1 : Int) (k_ : Nat) => (((tk ns k_ (9973 : Int)) : Int), (k_ + 1))) (rg 0 many) (0 + 1)).2) = lo at ho_ h_others ⊢
  obtain ⟨others, k2⟩ := lo
  generalize (lcK (fun (_ : Int) (k_ : Nat) => (true, k_)) (fun (x1 : Int) (k_ : Nat) => (((tk ns k_ (9973 : Int)) : Int), (k_ + 1))) (rg 0 many) (0 + 1)) = lw at hw_ h_words ⊢
  obtain ⟨words, k1⟩ := lw
  simp only at hw_ ho_ h_words h_others
  obtain ⟨hwl, hwa⟩ := hw_
  obtain ⟨hol, hoa⟩ := ho_
  refine bl_asgF (i := 6) (ev_add ev_int (ev_take C_take (hr.mono (by decide)) (ev_var (i := 1) rfl (.ow _)) ev_int (by first | decide | omega) hz_ h_sa)) (.int _) ?_
  have hf_ := tk_in ns k2 (many := 9972) (by decide)
  generalize hfac : ((1 : Int) + (tk ns k2 (9972 : Int))) = factor
  replace hf_ : 1 ≤ factor ∧ factor ≤ 9972 := by omega
  obtain ⟨hf1, hf2⟩ := hf_
  have hWw : Wds words := ⟨by omega, hwa⟩
  have hWo : Wds others := ⟨by omega, hoa⟩
  refine bl_asgT (ev_tup (ea_cons (ev_call C_block_of (hr.mono (by decide)) (ea_cons (ev_var (i := 3) rfl h_words) ea_nil) (⟨false, (words), (by first | assumption | exact hp_.1 | omega), rfl, rfl⟩)) (ea_cons (ev_call C_block_of (hr.mono (by decide)) (ea_cons (ev_bty T.tuple cl_tupleR (ea_cons (ev_var (i := 4) rfl h_others) ea_nil) rfl) ea_nil) (⟨true, (others), (by first | assumption | exact hp_.1 | omega), rfl, rfl⟩)) (ea_cons (ev_call C_block_of (hr.mono (by decide)) (ea_cons (ev_call C__law_added (hr.mono (by decide)) (ea_cons (ev_var (i := 3) rfl h_words) (ea_cons (ev_var (i := 4) rfl h_others) ea_nil)) (⟨false, false, (words), (others), rfl, rfl⟩)) ea_nil) (⟨false, (m__law_added (words) (others)), (by exact added_wds hWw), rfl, rfl⟩)) ea_nil))) (by simp)) (fun v_ F_ e9 r8 => ?_)
  replace h_script := h_script.mono e9
  replace h_sa := h_sa.mono e9
  replace h_words := h_words.mono e9
  replace h_others := h_others.mono e9
  refine tg_tup (ds := [(eR true D.int) ((m_block_of (words))), (eR true D.int) ((m_block_of (others))), (eR true D.int) ((m_block_of (m__law_added (words) (others))))]) r8 (fun vs10 rr11 => ?_)
  cases rr11 with | @cons v_one _ _ _ h_one rr11 => ?_
  cases rr11 with | @cons v_two _ _ _ h_two rr11 => ?_
  cases rr11 with | @cons v_both _ _ _ h_both rr11 => ?_
  cases rr11
  refine tgs_cons ?_
  refine tg_name (i := 7) ?_
  refine tgs_cons ?_
  refine tg_name (i := 8) ?_
  refine tgs_cons ?_
  refine tg_name (i := 9) ?_
  refine tgs_nil ?_
  have hl_one := rep_len h_one
  have hl_two := rep_len h_two
  have hl_both := rep_len h_both
  refine bl_asg (i := 10) (ev_call C_block_of (hr.mono (by decide)) (ea_cons (ev_repR (ev_lstR ((0 : Int) :: ([] : List Int)) (ea_consR (f := D.int) (x := (0 : Int)) ev_int (ea_nilR (f := D.int))) (by simp [rg_len, enumT_len]; try omega)) (ev_var (i := 2) rfl (.int _)) (by omega) (by simp; omega) (by omega)) ea_nil) (⟨false, (List.replicate (many).toNat ((0 : Int) :: ([] : List Int))).flatten, (by exact ⟨by rw [rep_in.1]; omega, rep_in.2⟩), rfl, rfl⟩)) (fun v_zero F_ e12 h_zero => ?_)
  have hl_zero := rep_len h_zero
  replace h_script := h_script.mono e12
  replace h_sa := h_sa.mono e12
  replace h_words := h_words.mono e12
  replace h_others := h_others.mono e12
  replace h_one := h_one.mono e12
  replace h_two := h_two.mono e12
  replace h_both := h_both.mono e12
  refine bl_never (q := ((!decide ((m_words_in (m_block_of (words))) = (some words))) || ((!decide ((m_words_in (m_block_of (words))) = (some words))) || ((!decide ((((many :: ((many + (1 : Int)) :: ([] : List Int)))).map fun x15 => (((((ixI 0 (m_block_of (m__law_added (words) (others))) x15) + (ixI 0 (m_block_of (List.replicate (many).toNat ((0 : Int) :: ([] : List Int))).flatten) x15)) - (ixI 0 (m_block_of (words)) x15)) - (ixI 0 (m_block_of (others)) x15)) % (9973 : Int))) = ((0 : Int) :: ((0 : Int) :: ([] : List Int))))) || ((!decide ((cutL (m_block_of (words)) none (some many)) = words)) || (!decide ((m_block_of (List.replicate (many).toNat ((0 : Int) :: ([] : List Int))).flatten) = ((List.replicate (many).toNat ((0 : Int) :: ([] : List Int))).flatten ++ (many :: (many :: ([] : List Int))))))))))) (et_w (ew_or (et_cm (ev_call C_words_in (hr.mono (by decide)) (ea_cons (ev_var (i := 7) rfl h_one) ea_nil) (.inr ⟨true, (m_block_of (words)), rfl, rfl⟩)) (ev_is (d1 := (eO (eR true D.int)) (some words)) (ev_bty T.tuple cl_tupleR (ea_cons (ev_var (i := 3) rfl h_words) ea_nil) rfl) rfl) (cm_ne (f := (eO (eR true D.int))) (x := (m_words_in (m_block_of (words)))) (y := (some words)) hr (Lw.opt (Lw.row lw_int) (fun _ => rfl) (fun _ => rfl)))) (fun hb13 => (ew_or (et_cm (ev_call C_words_in (hr.mono (by decide)) (ea_cons (ev_bty T.list cl_listR (ea_cons (ev_var (i := 7) rfl h_one) ea_nil) rfl) ea_nil) (.inr ⟨false, (m_block_of (words)), rfl, rfl⟩)) (ev_is (d1 := (eO (eR true D.int)) (some words)) (ev_bty T.tuple cl_tupleR (ea_cons (ev_var (i := 3) rfl h_words) ea_nil) rfl) rfl) (cm_ne (f := (eO (eR true D.int))) (x := (m_words_in (m_block_of (words)))) (y := (some words)) hr (Lw.opt (Lw.row lw_int) (fun _ => rfl) (fun _ => rfl)))) (fun hb14 => (ew_or (et_cm (ev_ofLc (lc_M (own := [("at", 11)]) (f := D.int) (g := D.int) (fun x15 => (((((ixI 0 (m_block_of (m__law_added (words) (others))) x15) + (ixI 0 (m_block_of (List.replicate (many).toNat ((0 : Int) :: ([] : List Int))).flatten) x15)) - (ixI 0 (m_block_of (words)) x15)) - (ixI 0 (m_block_of (others)) x15)) % (9973 : Int))) (ei_row (ev_tupR (many :: ((many + (1 : Int)) :: ([] : List Int))) (ea_consR (f := D.int) (x := many) (ev_var (i := 2) rfl (.int _)) (ea_consR (f := D.int) (x := (many + (1 : Int))) (ev_add (ev_var (i := 2) rfl (.int _)) ev_int) (ea_nilR (f := D.int)))) (by simp [rg_len, enumT_len]; try omega))) (by first | assumption | omega | (simp only [List.length_map, enumT_len, rg_len]; omega) | (simp; done) | (simp; omega)) (fun x15 hx16 v_ F1_ e_ r17 => by
      replace h_script := h_script.mono e_
      replace h_sa := h_sa.mono e_
      replace h_words := h_words.mono e_
      replace h_others := h_others.mono e_
      replace h_one := h_one.mono e_
      replace h_two := h_two.mono e_
      replace h_both := h_both.mono e_
      replace h_zero := h_zero.mono e_
      intro s_ H0_ C_ cl_ fp_
      cases r17
      refine tg_name (i := 11) ?_
      refine ⟨rfl, fun s_ H0_ C_ cl_ fp_ => ?_, fun ht_ s_ H0_ C_ cl_ fp_ => ?_⟩
      · exact ets_nil
      · exact (ev_mod (ev_sub (ev_sub (ev_add (ev_ix (ev_var (i := 9) rfl h_both) (ev_var (i := 11) rfl (.int _)) (ixI_at (d := 0) (by have h_ := hx16; simp only [List.mem_cons, List.not_mem_nil, or_false] at h_; rw [blk_len, added_len]; rcases h_ with e | e <;> omega))) (ev_ix (ev_var (i := 10) rfl h_zero) (ev_var (i := 11) rfl (.int _)) (ixI_at (d := 0) (by have h_ := hx16; simp only [List.mem_cons, List.not_mem_nil, or_false] at h_; rw [blk_len, rep_in.1]; rcases h_ with e | e <;> omega)))) (ev_ix (ev_var (i := 7) rfl h_one) (ev_var (i := 11) rfl (.int _)) (ixI_at (d := 0) (by have h_ := hx16; simp only [List.mem_cons, List.not_mem_nil, or_false] at h_; rw [blk_len]; rcases h_ with e | e <;> omega)))) (ev_ix (ev_var (i := 8) rfl h_two) (ev_var (i := 11) rfl (.int _)) (ixI_at (d := 0) (by have h_ := hx16; simp only [List.mem_cons, List.not_mem_nil, or_false] at h_; rw [blk_len]; rcases h_ with e | e <;> omega)))) ev_int (by first | decide | omega)))) (ok := blkOk_by (N := N27) (sc := defScope s27) (by decide +kernel))) (ev_lstR ((0 : Int) :: ((0 : Int) :: ([] : List Int))) (ea_consR (f := D.int) (x := (0 : Int)) ev_int (ea_consR (f := D.int) (x := (0 : Int)) ev_int (ea_nilR (f := D.int)))) (by simp [rg_len, enumT_len]; try omega)) (cm_ne (f := (eR false D.int)) (x := (((many :: ((many + (1 : Int)) :: ([] : List Int)))).map fun x15 => (((((ixI 0 (m_block_of (m__law_added (words) (others))) x15) + (ixI 0 (m_block_of (List.replicate (many).toNat ((0 : Int) :: ([] : List Int))).flatten) x15)) - (ixI 0 (m_block_of (words)) x15)) - (ixI 0 (m_block_of (others)) x15)) % (9973 : Int)))) (y := ((0 : Int) :: ((0 : Int) :: ([] : List Int)))) hr (Lw.row lw_int))) (fun hb18 => (ew_or (et_cm (ev_sl (l := none) (u := (some many)) (ev_var (i := 7) rfl h_one) eo_none (eo_some (ev_var (i := 2) rfl (.int _)))) (ev_bty T.tuple cl_tupleR (ea_cons (ev_var (i := 3) rfl h_words) ea_nil) rfl) (cm_ne (f := (eR true D.int)) (x := (cutL (m_block_of (words)) none (some many))) (y := words) hr (Lw.row lw_int))) (fun hb19 => (ew_or1 (et_cm (ev_var (i := 10) rfl h_zero) (ev_catTR (ev_repT (ev_tupR ((0 : Int) :: ([] : List Int)) (ea_consR (f := D.int) (x := (0 : Int)) ev_int (ea_nilR (f := D.int))) (by simp [rg_len, enumT_len]; try omega)) (ev_var (i := 2) rfl (.int _)) (by omega) (by omega) (by simp; omega) (by simp) (by simp)) (ev_tupR (many :: (many :: ([] : List Int))) (ea_consR (f := D.int) (x := many) (ev_var (i := 2) rfl (.int _)) (ea_consR (f := D.int) (x := many) (ev_var (i := 2) rfl (.int _)) (ea_nilR (f := D.int)))) (by simp [rg_len, enumT_len]; try omega)) (by simp; try omega) (by simp; omega)) (cm_ne (f := (eR true D.int)) (x := (m_block_of (List.replicate (many).toNat ((0 : Int) :: ([] : List Int))).flatten)) (y := ((List.replicate (many).toNat ((0 : Int) :: ([] : List Int))).flatten ++ (many :: (many :: ([] : List Int))))) hr (Lw.row lw_int))))))))))))) (by exact nv0 hm1 hm2 hWw hWo hwl hol) ?_
  refine bl_asg (i := 12) (ev_call C_block_of (hr.mono (by decide)) (ea_cons (ev_ofLc (lc_M (own := [("word", 13)]) (f := D.int) (g := D.int) (fun x21 => ((factor * x21) % (9973 : Int))) (ei_row (ev_var (i := 3) rfl h_words)) (by first | assumption | omega | (simp only [List.length_map, enumT_len, rg_len]; omega) | (simp; done) | (simp; omega)) (fun x21 hx22 v_ F1_ e_ r23 => by
      replace h_script := h_script.mono e_
      replace h_sa := h_sa.mono e_
      replace h_words := h_words.mono e_
      replace h_others := h_others.mono e_
      replace h_one := h_one.mono e_
      replace h_two := h_two.mono e_
      replace h_both := h_both.mono e_
      replace h_zero := h_zero.mono e_
      intro s_ H0_ C_ cl_ fp_
      cases r23
      refine tg_name (i := 13) ?_
      refine ⟨rfl, fun s_ H0_ C_ cl_ fp_ => ?_, fun ht_ s_ H0_ C_ cl_ fp_ => ?_⟩
      · exact ets_nil
      · exact (ev_mod (ev_mul (ev_var (i := 6) rfl (.int _)) (ev_var (i := 13) rfl (.int _)) (by first | exact Or.inl ⟨by omega, by omega⟩ | exact Or.inr ⟨by omega, by omega⟩)) ev_int (by first | decide | omega)))) (ok := blkOk_by (N := N27) (sc := defScope s27) (by decide +kernel))) ea_nil) (⟨false, ((words).map fun x21 => ((factor * x21) % (9973 : Int))), (by exact scaled_wds hWw.1), rfl, rfl⟩)) (fun v_scaled F_ e24 h_scaled => ?_)
  have hl_scaled := rep_len h_scaled
  replace h_script := h_script.mono e24
  replace h_sa := h_sa.mono e24
  replace h_words := h_words.mono e24
  replace h_others := h_others.mono e24
  replace h_one := h_one.mono e24
  replace h_two := h_two.mono e24
  replace h_both := h_both.mono e24
  replace h_zero := h_zero.mono e24
  refine bl_never (q := (!decide ((((many :: ((many + (1 : Int)) :: ([] : List Int)))).map fun x25 => ((((ixI 0 (m_block_of ((words).map fun x21 => ((factor * x21) % (9973 : Int)))) x25) - many) - (factor * ((ixI 0 (m_block_of (words)) x25) - many))) % (9973 : Int))) = ((0 : Int) :: ((0 : Int) :: ([] : List Int)))))) (et_cm (ev_ofLc (lc_M (own := [("at", 11)]) (f := D.int) (g := D.int) (fun x25 => ((((ixI 0 (m_block_of ((words).map fun x21 => ((factor * x21) % (9973 : Int)))) x25) - many) - (factor * ((ixI 0 (m_block_of (words)) x25) - many))) % (9973 : Int))) (ei_row (ev_tupR (many :: ((many + (1 : Int)) :: ([] : List Int))) (ea_consR (f := D.int) (x := many) (ev_var (i := 2) rfl (.int _)) (ea_consR (f := D.int) (x := (many + (1 : Int))) (ev_add (ev_var (i := 2) rfl (.int _)) ev_int) (ea_nilR (f := D.int)))) (by simp [rg_len, enumT_len]; try omega))) (by first | assumption | omega | (simp only [List.length_map, enumT_len, rg_len]; omega) | (simp; done) | (simp; omega)) (fun x25 hx26 v_ F1_ e_ r27 => by
      replace h_script := h_script.mono e_
      replace h_sa := h_sa.mono e_
      replace h_words := h_words.mono e_
      replace h_others := h_others.mono e_
      replace h_one := h_one.mono e_
      replace h_two := h_two.mono e_
      replace h_both := h_both.mono e_
      replace h_zero := h_zero.mono e_
      replace h_scaled := h_scaled.mono e_
      intro s_ H0_ C_ cl_ fp_
      cases r27
      refine tg_name (i := 11) ?_
      refine ⟨rfl, fun s_ H0_ C_ cl_ fp_ => ?_, fun ht_ s_ H0_ C_ cl_ fp_ => ?_⟩
      · exact ets_nil
      · exact (ev_mod (ev_sub (ev_sub (ev_ix (ev_var (i := 12) rfl h_scaled) (ev_var (i := 11) rfl (.int _)) (ixI_at (d := 0) (by have h_ := hx26; simp only [List.mem_cons, List.not_mem_nil, or_false] at h_; rw [blk_len, List.length_map]; rcases h_ with e | e <;> omega))) (ev_var (i := 2) rfl (.int _))) (ev_mul (ev_var (i := 6) rfl (.int _)) (ev_sub (ev_ix (ev_var (i := 7) rfl h_one) (ev_var (i := 11) rfl (.int _)) (ixI_at (d := 0) (by have h_ := hx26; simp only [List.mem_cons, List.not_mem_nil, or_false] at h_; rw [blk_len]; rcases h_ with e | e <;> omega))) (ev_var (i := 2) rfl (.int _))) (by first | exact Or.inl ⟨by omega, by omega⟩ | exact Or.inr ⟨by omega, by omega⟩))) ev_int (by first | decide | omega)))) (ok := blkOk_by (N := N27) (sc := defScope s27) (by decide +kernel))) (ev_lstR ((0 : Int) :: ((0 : Int) :: ([] : List Int))) (ea_consR (f := D.int) (x := (0 : Int)) ev_int (ea_consR (f := D.int) (x := (0 : Int)) ev_int (ea_nilR (f := D.int)))) (by simp [rg_len, enumT_len]; try omega)) (cm_ne (f := (eR false D.int)) (x := (((many :: ((many + (1 : Int)) :: ([] : List Int)))).map fun x25 => ((((ixI 0 (m_block_of ((words).map fun x21 => ((factor * x21) % (9973 : Int)))) x25) - many) - (factor * ((ixI 0 (m_block_of (words)) x25) - many))) % (9973 : Int)))) (y := ((0 : Int) :: ((0 : Int) :: ([] : List Int)))) hr (Lw.row lw_int))) (by exact nv1 hm1 hm2 hwl) ?_
  refine bl_forI (xs := (rg 0 many)) (f := D.int) (ei_range1 T.range (ea_cons (ev_var (i := 2) rfl (.int _)) ea_nil) (by omega) (by omega)) (fun (s29 : Unit) (x30 : Int) => ()) () (fun i_ (s_ : Unit) σ_ F_ W_ => ∃ (o_at : Option V) (o_late : Option V) (o_swapped : Option V), σ_ = [some v_script, some (.ref dl), some (.int many), some v_words, some v_others, none, some (.int factor), some v_one, some v_two, some v_both, some v_zero, o_at, some v_scaled, none, o_late, o_swapped, none, none, none, none, none, none, none, none, none, none, none, none, none] ∧ W_ = (WK W' dl sa (k2 + 1))) (fun F_ e_ => ?_) (fun i34 x30 hi35 hx32 s29 σ_ F_ W_ e_ J_ v_ F2_ e2_ r33 => ?_) (fun σ_ F_ W_ e_ J_ => ?_)
  · replace h_script := h_script.mono e_
    replace h_sa := h_sa.mono e_
    replace h_words := h_words.mono e_
    replace h_others := h_others.mono e_
    replace h_one := h_one.mono e_
    replace h_two := h_two.mono e_
    replace h_both := h_both.mono e_
    replace h_zero := h_zero.mono e_
    replace h_scaled := h_scaled.mono e_
    exact ⟨_, _, _, rfl, rfl⟩
  · replace h_script := h_script.mono e_
    replace h_sa := h_sa.mono e_
    replace h_words := h_words.mono e_
    replace h_others := h_others.mono e_
    replace h_one := h_one.mono e_
    replace h_two := h_two.mono e_
    replace h_both := h_both.mono e_
    replace h_zero := h_zero.mono e_
    replace h_scaled := h_scaled.mono e_
    obtain ⟨o_at, o_late, o_swapped, rfl, rfl⟩ := J_
    replace h_script := h_script.mono e2_
    replace h_sa := h_sa.mono e2_
    replace h_words := h_words.mono e2_
    replace h_others := h_others.mono e2_
    replace h_one := h_one.mono e2_
    replace h_two := h_two.mono e2_
    replace h_both := h_both.mono e2_
    replace h_zero := h_zero.mono e2_
    replace h_scaled := h_scaled.mono e2_
    have hx32m := rg_mem.mp hx32
    cases r33
    refine tg_name (i := 11) ?_
    refine bl_forI (xs := (rg (x30 + (1 : Int)) many)) (f := D.int) (ei_range2 T.range (ea_cons (ev_add (ev_var (i := 11) rfl (.int _)) ev_int) (ea_cons (ev_var (i := 2) rfl (.int _)) ea_nil)) (by omega)) (fun (s36 : Unit) (x37 : Int) => ()) () (fun i_ (s_ : Unit) σ_ F_ W_ => ∃ (o_late : Option V) (o_swapped : Option V), σ_ = [some v_script, some (.ref dl), some (.int many), some v_words, some v_others, none, some (.int factor), some v_one, some v_two, some v_both, some v_zero, some (.int x30), some v_scaled, none, o_late, o_swapped, none, none, none, none, none, none, none, none, none, none, none, none, none] ∧ W_ = (WK W' dl sa (k2 + 1))) (fun F_ e_ => ?_) (fun i41 x37 hi42 hx39 s36 σ_ F_ W_ e_ J_ v_ F2_ e2_ r40 => ?_) (fun σ_ F_ W_ e_ J_ => ?_)
    · replace h_script := h_script.mono e_
      replace h_sa := h_sa.mono e_
      replace h_words := h_words.mono e_
      replace h_others := h_others.mono e_
      replace h_one := h_one.mono e_
      replace h_two := h_two.mono e_
      replace h_both := h_both.mono e_
      replace h_zero := h_zero.mono e_
      replace h_scaled := h_scaled.mono e_
      exact ⟨_, _, rfl, rfl⟩
    · replace h_script := h_script.mono e_
      replace h_sa := h_sa.mono e_
      replace h_words := h_words.mono e_
      replace h_others := h_others.mono e_
      replace h_one := h_one.mono e_
      replace h_two := h_two.mono e_
      replace h_both := h_both.mono e_
      replace h_zero := h_zero.mono e_
      replace h_scaled := h_scaled.mono e_
      obtain ⟨o_late, o_swapped, rfl, rfl⟩ := J_
      replace h_script := h_script.mono e2_
      replace h_sa := h_sa.mono e2_
      replace h_words := h_words.mono e2_
      replace h_others := h_others.mono e2_
      replace h_one := h_one.mono e2_
      replace h_two := h_two.mono e2_
      replace h_both := h_both.mono e2_
      replace h_zero := h_zero.mono e2_
      replace h_scaled := h_scaled.mono e2_
      have hx39m := rg_mem.mp hx39
      cases r40
      refine tg_name (i := 14) ?_
      refine bl_asgN (i := 15) (en_listR T.list (ev_var (i := 7) rfl h_one)) (fun l_swapped vs_swapped F_ e43 h_swapped wn_swapped => ?_)
      replace h_swapped : Reps F_ vs_swapped (((m_block_of (words))).map D.int) := h_swapped
      replace h_script := h_script.mono e43
      replace h_sa := h_sa.mono e43
      replace h_words := h_words.mono e43
      replace h_others := h_others.mono e43
      replace h_one := h_one.mono e43
      replace h_two := h_two.mono e43
      replace h_both := h_both.mono e43
      replace h_zero := h_zero.mono e43
      replace h_scaled := h_scaled.mono e43
      refine bl_set2 (n1 := (x30).toNat) (n2 := (x37).toNat) (ev_tup (ea_cons (ev_ix (ev_var (i := 7) rfl h_one) (ev_var (i := 14) rfl (.int _)) (ixI_at (d := 0) (by rw [blk_len]; omega))) (ea_cons (ev_ix (ev_var (i := 7) rfl h_one) (ev_var (i := 11) rfl (.int _)) (ixI_at (d := 0) (by rw [blk_len]; omega))) ea_nil)) (by simp)) (ev_var (i := 15) rfl (.ow _)) (ev_var (i := 11) rfl (.int _)) upd_same (fun _ => (ev_var (i := 15) rfl (.ow _))) (fun _ => (ev_var (i := 14) rfl (.int _))) (by omega) (by rw [h_swapped.length, List.length_map, blk_len, hwl]; omega) (by omega) (by rw [h_swapped.length, List.length_map, blk_len, hwl]; omega) (fun u1 u2 F_ e_ hu1 hu2 => ?_)
      replace h_script := h_script.mono e_
      replace h_sa := h_sa.mono e_
      replace h_words := h_words.mono e_
      replace h_others := h_others.mono e_
      replace h_one := h_one.mono e_
      replace h_two := h_two.mono e_
      replace h_both := h_both.mono e_
      replace h_zero := h_zero.mono e_
      replace h_scaled := h_scaled.mono e_
      replace h_swapped := h_swapped.mono e_
      replace h_swapped := (h_swapped.set (x30).toNat hu1).set (x37).toNat hu2
      rw [set2_map] at h_swapped
      rw [upd_upd]
      refine bl_freeze (ds := (((((m_block_of (words))).set (x30).toNat (ixI 0 (m_block_of (words)) x37)).set (x37).toNat (ixI 0 (m_block_of (words)) x30))).map D.int) upd_same h_swapped (by simp; try omega) (fun F_ e44 hf_swapped => ?_)
      rw [del_upd wn_swapped]
      replace h_script := h_script.mono e44
      replace h_sa := h_sa.mono e44
      replace h_words := h_words.mono e44
      replace h_others := h_others.mono e44
      replace h_one := h_one.mono e44
      replace h_two := h_two.mono e44
      replace h_both := h_both.mono e44
      replace h_zero := h_zero.mono e44
      replace h_scaled := h_scaled.mono e44
      replace h_swapped : Rep F_ (.ref l_swapped) (eR false D.int (((((m_block_of (words))).set (x30).toNat (ixI 0 (m_block_of (words)) x37)).set (x37).toNat (ixI 0 (m_block_of (words)) x30)))) := hf_swapped
      refine bl_never (q := (!decide (((m_words_in ((((m_block_of (words))).set (x30).toNat (ixI 0 (m_block_of (words)) x37)).set (x37).toNat (ixI 0 (m_block_of (words)) x30)))).isNone = (!decide ((ixI 0 words x30) = (ixI 0 words x37)))))) (et_cm (ev_cm (ev_call C_words_in (hr.mono (by decide)) (ea_cons (ev_var (i := 15) rfl h_swapped) ea_nil) (.inr ⟨false, ((((m_block_of (words))).set (x30).toNat (ixI 0 (m_block_of (words)) x37)).set (x37).toNat (ixI 0 (m_block_of (words)) x30)), rfl, rfl⟩)) ev_non (cm_isO (f := (eR true D.int)) (x := (m_words_in ((((m_block_of (words))).set (x30).toNat (ixI 0 (m_block_of (words)) x37)).set (x37).toNat (ixI 0 (m_block_of (words)) x30)))) (fun _ => rfl))) (ev_cm (ev_ix (ev_var (i := 3) rfl h_words) (ev_var (i := 11) rfl (.int _)) (ixI_at (d := 0) (by omega))) (ev_ix (ev_var (i := 3) rfl h_words) (ev_var (i := 14) rfl (.int _)) (ixI_at (d := 0) (by omega))) (cm_ne (f := D.int) (x := (ixI 0 words x30)) (y := (ixI 0 words x37)) hr lw_int)) (cm_ne (f := D.bl) (x := ((m_words_in ((((m_block_of (words))).set (x30).toNat (ixI 0 (m_block_of (words)) x37)).set (x37).toNat (ixI 0 (m_block_of (words)) x30)))).isNone) (y := (!decide ((ixI 0 words x30) = (ixI 0 words x37)))) hr lw_bl)) (by exact nv5 hm1 hm2 hWw hwl (by omega) (by omega) (by omega)) ?_
      exact bl_nil ⟨_, _, rfl, rfl⟩
    · replace h_script := h_script.mono e_
      replace h_sa := h_sa.mono e_
      replace h_words := h_words.mono e_
      replace h_others := h_others.mono e_
      replace h_one := h_one.mono e_
      replace h_two := h_two.mono e_
      replace h_both := h_both.mono e_
      replace h_zero := h_zero.mono e_
      replace h_scaled := h_scaled.mono e_
      obtain ⟨o_late, o_swapped, rfl, rfl⟩ := J_
      exact bl_nil ⟨_, _, _, rfl, rfl⟩
  · replace h_script := h_script.mono e_
    replace h_sa := h_sa.mono e_
    replace h_words := h_words.mono e_
    replace h_others := h_others.mono e_
    replace h_one := h_one.mono e_
    replace h_two := h_two.mono e_
    replace h_both := h_both.mono e_
    replace h_zero := h_zero.mono e_
    replace h_scaled := h_scaled.mono e_
    obtain ⟨o_at, o_late, o_swapped, rfl, rfl⟩ := J_
    refine bl_forI (xs := ((cutL (m_block_of (words)) (some (1 : Int)) none) :: ((cutL (m_block_of (words)) none (some (-(1 : Int)))) :: (((m_block_of (words)) ++ ((0 : Int) :: ([] : List Int))) :: ([] : List (List Int)))))) (f := (eR true D.int)) (ei_row (ev_tupR ((cutL (m_block_of (words)) (some (1 : Int)) none) :: ((cutL (m_block_of (words)) none (some (-(1 : Int)))) :: (((m_block_of (words)) ++ ((0 : Int) :: ([] : List Int))) :: ([] : List (List Int))))) (ea_consR (f := (eR true D.int)) (x := (cutL (m_block_of (words)) (some (1 : Int)) none)) (ev_sl (l := (some (1 : Int))) (u := none) (ev_var (i := 7) rfl h_one) (eo_some ev_int) eo_none) (ea_consR (f := (eR true D.int)) (x := (cutL (m_block_of (words)) none (some (-(1 : Int))))) (ev_sl (l := none) (u := (some (-(1 : Int)))) (ev_var (i := 7) rfl h_one) eo_none (eo_some (ev_neg ev_int))) (ea_consR (f := (eR true D.int)) (x := ((m_block_of (words)) ++ ((0 : Int) :: ([] : List Int)))) (ev_catTR (ev_var (i := 7) rfl h_one) (ev_tupR ((0 : Int) :: ([] : List Int)) (ea_consR (f := D.int) (x := (0 : Int)) ev_int (ea_nilR (f := D.int))) (by simp [rg_len, enumT_len]; try omega)) (by exact blk_ne _) (by rw [blk_len]; show words.length + 2 + 1 ≤ 100000; omega)) (ea_nilR (f := (eR true D.int)))))) (by simp [rg_len, enumT_len]; try omega))) (fun (s46 : Unit) (x47 : (List Int)) => ()) () (fun i_ (s_ : Unit) σ_ F_ W_ => ∃ (o_block : Option V), σ_ = [some v_script, some (.ref dl), some (.int many), some v_words, some v_others, none, some (.int factor), some v_one, some v_two, some v_both, some v_zero, o_at, some v_scaled, none, o_late, o_swapped, o_block, none, none, none, none, none, none, none, none, none, none, none, none] ∧ W_ = (WK W' dl sa (k2 + 1))) (fun F_ e_ => ?_) (fun i51 x47 hi52 hx49 s46 σ_ F_ W_ e_ J_ v_ F2_ e2_ r50 => ?_) (fun σ_ F_ W_ e_ J_ => ?_)
    · replace h_script := h_script.mono e_
      replace h_sa := h_sa.mono e_
      replace h_words := h_words.mono e_
      replace h_others := h_others.mono e_
      replace h_one := h_one.mono e_
      replace h_two := h_two.mono e_
      replace h_both := h_both.mono e_
      replace h_zero := h_zero.mono e_
      replace h_scaled := h_scaled.mono e_
      exact ⟨_, rfl, rfl⟩
    · replace h_script := h_script.mono e_
      replace h_sa := h_sa.mono e_
      replace h_words := h_words.mono e_
      replace h_others := h_others.mono e_
      replace h_one := h_one.mono e_
      replace h_two := h_two.mono e_
      replace h_both := h_both.mono e_
      replace h_zero := h_zero.mono e_
      replace h_scaled := h_scaled.mono e_
      obtain ⟨o_block, rfl, rfl⟩ := J_
      replace h_script := h_script.mono e2_
      replace h_sa := h_sa.mono e2_
      replace h_words := h_words.mono e2_
      replace h_others := h_others.mono e2_
      replace h_one := h_one.mono e2_
      replace h_two := h_two.mono e2_
      replace h_both := h_both.mono e2_
      replace h_zero := h_zero.mono e2_
      replace h_scaled := h_scaled.mono e2_
      refine tg_name (i := 16) ?_
      refine bl_never (q := ((!((m_words_in (x47))).isNone) && (!decide ((m_block_of (cutL x47 none (some (-(2 : Int))))) = x47)))) (et_w (ew_and (et_cm (ev_call C_words_in (hr.mono (by decide)) (ea_cons (ev_var (i := 16) rfl r50) ea_nil) (.inr ⟨true, (x47), rfl, rfl⟩)) ev_non (cm_isnotO (f := (eR true D.int)) (x := (m_words_in (x47))) (fun _ => rfl))) (fun hb53 => (ew_and1 (et_cm (ev_call C_block_of (hr.mono (by decide)) (ea_cons (ev_sl (l := none) (u := (some (-(2 : Int)))) (ev_var (i := 16) rfl r50) eo_none (eo_some (ev_neg ev_int))) ea_nil) (⟨true, (cutL x47 none (some (-(2 : Int)))), (by exact wds_cut (by assumption)), rfl, rfl⟩)) (ev_var (i := 16) rfl r50) (cm_ne (f := (eR true D.int)) (x := (m_block_of (cutL x47 none (some (-(2 : Int)))))) (y := x47) hr (Lw.row lw_int))))))) (by exact nv2) ?_
      exact bl_nil ⟨_, rfl, rfl⟩
    · replace h_script := h_script.mono e_
      replace h_sa := h_sa.mono e_
      replace h_words := h_words.mono e_
      replace h_others := h_others.mono e_
      replace h_one := h_one.mono e_
      replace h_two := h_two.mono e_
      replace h_both := h_both.mono e_
      replace h_zero := h_zero.mono e_
      replace h_scaled := h_scaled.mono e_
      obtain ⟨o_block, rfl, rfl⟩ := J_
      refine bl_never (q := ((!true) || (!((m_words_in ([] : List Int))).isNone))) (et_w (ew_or (et_cm (ev_call C_words_in (hr.mono (by decide)) (ea_cons ev_non ea_nil) (.inl ⟨rfl, rfl⟩)) ev_non cm_isnot) (fun hb55 => (ew_or1 (et_cm (ev_call C_words_in (hr.mono (by decide)) (ea_cons (ev_tupR ([] : List Int) (ea_nilR (f := D.int)) (by simp [rg_len, enumT_len]; try omega)) ea_nil) (.inr ⟨true, ([] : List Int), rfl, rfl⟩)) ev_non (cm_isnotO (f := (eR true D.int)) (x := (m_words_in ([] : List Int))) (fun _ => rfl))))))) (by exact nv3) ?_
      refine bl_asg (i := 17) (ev_call C_block_of (hr.mono (by decide)) (ea_cons (ev_catR (ev_var (i := 3) rfl h_words) (ev_lstR ((0 : Int) :: ([] : List Int)) (ea_consR (f := D.int) (x := (0 : Int)) ev_int (ea_nilR (f := D.int))) (by simp [rg_len, enumT_len]; try omega)) (by simp; omega)) ea_nil) (⟨false, (words ++ ((0 : Int) :: ([] : List Int))), (by exact wds_snoc hWw (by omega)), rfl, rfl⟩)) (fun v_longer F_ e57 h_longer => ?_)
      have hl_longer := rep_len h_longer
      replace h_script := h_script.mono e57
      replace h_sa := h_sa.mono e57
      replace h_words := h_words.mono e57
      replace h_others := h_others.mono e57
      replace h_one := h_one.mono e57
      replace h_two := h_two.mono e57
      replace h_both := h_both.mono e57
      replace h_zero := h_zero.mono e57
      replace h_scaled := h_scaled.mono e57
      refine bl_never (q := ((!decide ((ixI 0 (m_block_of (words ++ ((0 : Int) :: ([] : List Int)))) (many + (1 : Int))) = (((ixI 0 (m_block_of (words)) many) + (1 : Int)) % (9973 : Int)))) || (!decide ((ixI 0 (m_block_of (words ++ ((0 : Int) :: ([] : List Int)))) (many + (2 : Int))) = (((ixI 0 (m_block_of (words)) (many + (1 : Int))) + (1 : Int)) % (9973 : Int)))))) (et_w (ew_or (et_cm (ev_ix (ev_var (i := 17) rfl h_longer) (ev_add (ev_var (i := 2) rfl (.int _)) ev_int) (ixI_at (d := 0) (by rw [blk_len]; simp only [List.length_append, List.length_cons, List.length_nil]; omega))) (ev_mod (ev_add (ev_ix (ev_var (i := 7) rfl h_one) (ev_var (i := 2) rfl (.int _)) (ixI_at (d := 0) (by rw [blk_len]; omega))) ev_int) ev_int (by first | decide | omega)) (cm_ne (f := D.int) (x := (ixI 0 (m_block_of (words ++ ((0 : Int) :: ([] : List Int)))) (many + (1 : Int)))) (y := (((ixI 0 (m_block_of (words)) many) + (1 : Int)) % (9973 : Int))) hr lw_int)) (fun hb58 => (ew_or1 (et_cm (ev_ix (ev_var (i := 17) rfl h_longer) (ev_add (ev_var (i := 2) rfl (.int _)) ev_int) (ixI_at (d := 0) (by rw [blk_len]; simp only [List.length_append, List.length_cons, List.length_nil]; omega))) (ev_mod (ev_add (ev_ix (ev_var (i := 7) rfl h_one) (ev_add (ev_var (i := 2) rfl (.int _)) ev_int) (ixI_at (d := 0) (by rw [blk_len]; omega))) ev_int) ev_int (by first | decide | omega)) (cm_ne (f := D.int) (x := (ixI 0 (m_block_of (words ++ ((0 : Int) :: ([] : List Int)))) (many + (2 : Int)))) (y := (((ixI 0 (m_block_of (words)) (many + (1 : Int))) + (1 : Int)) % (9973 : Int))) hr lw_int)))))) (by exact nv4 hm1 hwl) ?_
      refine bl_asg (i := 18) (ev_ofLc (lc_K (own := [("place", 19)]) (f := D.int) (g := D.int) (WK W' dl sa) (k0 := (k2 + 1)) (fun (x60 : Int) (k_ : Nat) => ((decide ((tk ns k_ (2 : Int)) = (0 : Int))), (k_ + 1))) (fun (x60 : Int) (k_ : Nat) => ((x60 : Int), k_)) (ei_range1 T.range (ea_cons (ev_add (ev_var (i := 2) rfl (.int _)) ev_int) ea_nil) (by omega) (by omega)) (by first | assumption | omega | (simp only [List.length_map, enumT_len, rg_len]; omega)) (fun x60 hx61 k_ v_ F1_ e_ r62 => by
      replace h_script := h_script.mono e_
      replace h_sa := h_sa.mono e_
      replace h_words := h_words.mono e_
      replace h_others := h_others.mono e_
      replace h_one := h_one.mono e_
      replace h_two := h_two.mono e_
      replace h_both := h_both.mono e_
      replace h_zero := h_zero.mono e_
      replace h_scaled := h_scaled.mono e_
      replace h_longer := h_longer.mono e_
      have hx61m := rg_mem.mp hx61
      intro s_ H0_ C_ cl_ fp_
      cases r62
      refine tg_name (i := 19) ?_
      refine ⟨rfl, fun s_ H0_ C_ cl_ fp_ => ?_, fun ht_ s_ H0_ C_ cl_ fp_ => ?_⟩
      · exact ets_one (et_cm (ev_take C_take (hr.mono (by decide)) (ev_var (i := 1) rfl (.ow _)) ev_int (by first | decide | omega) hz_ h_sa) ev_int (cm_eq (f := D.int) (x := (tk ns k_ (2 : Int))) (y := (0 : Int)) hr lw_int))
      · exact (ev_var (i := 19) rfl (.int _)))) (ok := blkOk_by (N := N27) (sc := defScope s27) (by decide +kernel))) (fun v_places F_ e63 h_places => ?_)
      have hl_places := rep_len h_places
      replace h_script := h_script.mono e63
      replace h_sa := h_sa.mono e63
      replace h_words := h_words.mono e63
      replace h_others := h_others.mono e63
      replace h_one := h_one.mono e63
      replace h_two := h_two.mono e63
      replace h_both := h_both.mono e63
      replace h_zero := h_zero.mono e63
      replace h_scaled := h_scaled.mono e63
      replace h_longer := h_longer.mono e63
      have hp_ : (((lcK (fun (x60 : Int) (k_ : Nat) => ((decide ((tk ns k_ (2 : Int)) = (0 : Int))), (k_ + 1))) (fun (x60 : Int) (k_ : Nat) => ((x60 : Int), k_)) (rg 0 (many + (2 : Int))) (k2 + 1))).1).Sublist (rg 0 (many + 2)) := lcK_sub (fun _ _ => rfl) _ _
      generalize (lcK (fun (x60 : Int) (k_ : Nat) => ((decide ((tk ns k_ (2 : Int)) = (0 : Int))), (k_ + 1))) (fun (x60 : Int) (k_ : Nat) => ((x60 : Int), k_)) (rg 0 (many + (2 : Int))) (k2 + 1)) = lp at hp_ h_places hl_places ⊢
      obtain ⟨places, k3⟩ := lp
      simp only at hp_ h_places hl_places
      have hP := pls_of hm1 (by omega) hp_
      have hJ := jokP hm1 hm2 (List.Perm.refl _) hp_
      refine bl_asg (i := 20) (ev_call C_judge_noticed (hr.mono (by decide)) (ea_cons (ev_var (i := 2) rfl (.int _)) (ea_cons (ev_bty T.tuple cl_tupleR (ea_cons (ev_var (i := 18) rfl h_places) ea_nil) rfl) ea_nil)) (⟨true, (many), (places), (by first | assumption | exact hp_.1 | omega), rfl, rfl⟩)) (fun v_found F_ e64 h_found => ?_)
      replace h_script := h_script.mono e64
      replace h_sa := h_sa.mono e64
      replace h_words := h_words.mono e64
      replace h_others := h_others.mono e64
      replace h_one := h_one.mono e64
      replace h_two := h_two.mono e64
      replace h_both := h_both.mono e64
      replace h_zero := h_zero.mono e64
      replace h_scaled := h_scaled.mono e64
      replace h_longer := h_longer.mono e64
      replace h_places := h_places.mono e64
      generalize hfound : (m_judge_noticed (many) (places)) = found at h_found ⊢
      refine bl_asgLc (i := 21) (lc_F (own := [("place", 19)]) (f := D.int) (g := D.int) (fun x65 => (decide (x65 < many))) (fun x65 => x65) (ei_row (ev_var (i := 18) rfl h_places)) (by first | assumption | omega | (simp only [List.length_map, enumT_len, rg_len]; omega) | (simp; done) | (simp; omega)) (fun x65 hx66 v_ F1_ e_ r67 => by
      replace h_script := h_script.mono e_
      replace h_sa := h_sa.mono e_
      replace h_words := h_words.mono e_
      replace h_others := h_others.mono e_
      replace h_one := h_one.mono e_
      replace h_two := h_two.mono e_
      replace h_both := h_both.mono e_
      replace h_zero := h_zero.mono e_
      replace h_scaled := h_scaled.mono e_
      replace h_longer := h_longer.mono e_
      replace h_places := h_places.mono e_
      replace h_found := h_found.mono e_
      intro s_ H0_ C_ cl_ fp_
      cases r67
      refine tg_name (i := 19) ?_
      refine ⟨rfl, fun s_ H0_ C_ cl_ fp_ => ?_, fun ht_ s_ H0_ C_ cl_ fp_ => ?_⟩
      · exact ets_one (et_cm (ev_var (i := 19) rfl (.int _)) (ev_var (i := 2) rfl (.int _)) cm_lt)
      · exact (ev_var (i := 19) rfl (.int _)))) (ok := blkOk_by (N := N27) (sc := defScope s27) (by decide +kernel)) (fun v_inner F_ e68 h_inner => ?_)
      have hl_inner := rep_len h_inner
      replace h_script := h_script.mono e68
      replace h_sa := h_sa.mono e68
      replace h_words := h_words.mono e68
      replace h_others := h_others.mono e68
      replace h_one := h_one.mono e68
      replace h_two := h_two.mono e68
      replace h_both := h_both.mono e68
      replace h_zero := h_zero.mono e68
      replace h_scaled := h_scaled.mono e68
      replace h_longer := h_longer.mono e68
      replace h_places := h_places.mono e68
      replace h_found := h_found.mono e68
      refine bl_never (q := ((!decide ((found).isNone = ((decide (((places).length : Int) < (3 : Int))) || (decide ((((places).filter fun x65 => (decide (x65 < many))).map fun x65 => x65) = ([] : List Int)))))) || (((found).isNone && false) || (!(showsV found many (places).reverse))))) (et_w (ew_or (et_cm (ev_boolV Bf T.bool (ev_var (i := 20) rfl h_found) (hr.mono (by decide))) (ev_or (ev_cm (ev_blt T.len cl_lenR (ea_cons (ev_var (i := 18) rfl h_places) ea_nil) rfl) ev_int cm_lt) (fun hb69 => (ev_bop1 (ev_cm (ev_var (i := 21) rfl h_inner) (ev_lstR ([] : List Int) (ea_nilR (f := D.int)) (by simp [rg_len, enumT_len]; try omega)) (cm_eq (f := (eR false D.int)) (x := (((places).filter fun x65 => (decide (x65 < many))).map fun x65 => x65)) (y := ([] : List Int)) hr (Lw.row lw_int)))))) (cm_ne (f := D.bl) (x := (found).isNone) (y := ((decide (((places).length : Int) < (3 : Int))) || (decide ((((places).filter fun x65 => (decide (x65 < many))).map fun x65 => x65) = ([] : List Int))))) hr lw_bl)) (fun hb70 => (ew_or (et_w (ew_and (et_V Bf (ev_var (i := 20) rfl h_found) (hr.mono (by decide))) (fun hb71 => (ew_and1 (et_cm (ev_var (i := 20) rfl h_found) (ev_is (d1 := eV CN CH none) (ev_plain Y.plain Y.gn) rfl) (cm_neV Y Ms (hr.mono (by decide)) (by assumption))))))) (fun hb72 => (ew_or1 (et_not (et_val (ev_showsV Y Ms (ev_var (i := 20) rfl h_found) (hr.mono (by decide)) (ev_var (i := 2) rfl (.int _)) (ev_rev (ev_var (i := 18) rfl h_places)) (by exact jokP hm1 hm2 (List.reverse_perm _) hp_)))))))))) (by exact nv6 hm1 hm2 hp_ hfound) ?_
      refine bl_forI (xs := places) (f := D.int) (ei_row (ev_var (i := 18) rfl h_places)) (fun (s74 : Unit) (x75 : Int) => ()) () (fun i_ (s_ : Unit) σ_ F_ W_ => ∃ (o_place : Option V) (o_less : Option V), σ_ = [some v_script, some (.ref dl), some (.int many), some v_words, some v_others, none, some (.int factor), some v_one, some v_two, some v_both, some v_zero, o_at, some v_scaled, none, o_late, o_swapped, o_block, some v_longer, some v_places, o_place, some v_found, some v_inner, o_less, none, none, none, none, none, none] ∧ W_ = (WK W' dl sa k3)) (fun F_ e_ => ?_) (fun i79 x75 hi80 hx77 s74 σ_ F_ W_ e_ J_ v_ F2_ e2_ r78 => ?_) (fun σ_ F_ W_ e_ J_ => ?_)
      · replace h_script := h_script.mono e_
        replace h_sa := h_sa.mono e_
        replace h_words := h_words.mono e_
        replace h_others := h_others.mono e_
        replace h_one := h_one.mono e_
        replace h_two := h_two.mono e_
        replace h_both := h_both.mono e_
        replace h_zero := h_zero.mono e_
        replace h_scaled := h_scaled.mono e_
        replace h_longer := h_longer.mono e_
        replace h_places := h_places.mono e_
        replace h_found := h_found.mono e_
        replace h_inner := h_inner.mono e_
        exact ⟨_, _, rfl, rfl⟩
      · replace h_script := h_script.mono e_
        replace h_sa := h_sa.mono e_
        replace h_words := h_words.mono e_
        replace h_others := h_others.mono e_
        replace h_one := h_one.mono e_
        replace h_two := h_two.mono e_
        replace h_both := h_both.mono e_
        replace h_zero := h_zero.mono e_
        replace h_scaled := h_scaled.mono e_
        replace h_longer := h_longer.mono e_
        replace h_places := h_places.mono e_
        replace h_found := h_found.mono e_
        replace h_inner := h_inner.mono e_
        obtain ⟨o_place, o_less, rfl, rfl⟩ := J_
        replace h_script := h_script.mono e2_
        replace h_sa := h_sa.mono e2_
        replace h_words := h_words.mono e2_
        replace h_others := h_others.mono e2_
        replace h_one := h_one.mono e2_
        replace h_two := h_two.mono e2_
        replace h_both := h_both.mono e2_
        replace h_zero := h_zero.mono e2_
        replace h_scaled := h_scaled.mono e2_
        replace h_longer := h_longer.mono e2_
        replace h_places := h_places.mono e2_
        replace h_found := h_found.mono e2_
        replace h_inner := h_inner.mono e2_
        cases r78
        refine tg_name (i := 19) ?_
        refine bl_asg (i := 22) (ev_call C_judge_noticed (hr.mono (by decide)) (ea_cons (ev_var (i := 2) rfl (.int _)) (ea_cons (ev_ofLc (lc_F (own := [("late", 14)]) (f := D.int) (g := D.int) (fun x81 => (!decide (x81 = x75))) (fun x81 => x81) (ei_row (ev_var (i := 18) rfl h_places)) (by first | assumption | omega | (simp only [List.length_map, enumT_len, rg_len]; omega) | (simp; done) | (simp; omega)) (fun x81 hx82 v_ F1_ e_ r83 => by
      replace h_script := h_script.mono e_
      replace h_sa := h_sa.mono e_
      replace h_words := h_words.mono e_
      replace h_others := h_others.mono e_
      replace h_one := h_one.mono e_
      replace h_two := h_two.mono e_
      replace h_both := h_both.mono e_
      replace h_zero := h_zero.mono e_
      replace h_scaled := h_scaled.mono e_
      replace h_longer := h_longer.mono e_
      replace h_places := h_places.mono e_
      replace h_found := h_found.mono e_
      replace h_inner := h_inner.mono e_
      intro s_ H0_ C_ cl_ fp_
      cases r83
      refine tg_name (i := 14) ?_
      refine ⟨rfl, fun s_ H0_ C_ cl_ fp_ => ?_, fun ht_ s_ H0_ C_ cl_ fp_ => ?_⟩
      · exact ets_one (et_cm (ev_var (i := 14) rfl (.int _)) (ev_var (i := 19) rfl (.int _)) (cm_ne (f := D.int) (x := x81) (y := x75) hr lw_int))
      · exact (ev_var (i := 14) rfl (.int _)))) (ok := blkOk_by (N := N27) (sc := defScope s27) (by decide +kernel))) ea_nil)) (⟨false, (many), (((places).filter fun x81 => (!decide (x81 = x75))).map fun x81 => x81), (by exact jokF hm1 hm2 hp_ _), rfl, rfl⟩)) (fun v_less F_ e84 h_less => ?_)
        replace h_script := h_script.mono e84
        replace h_sa := h_sa.mono e84
        replace h_words := h_words.mono e84
        replace h_others := h_others.mono e84
        replace h_one := h_one.mono e84
        replace h_two := h_two.mono e84
        replace h_both := h_both.mono e84
        replace h_zero := h_zero.mono e84
        replace h_scaled := h_scaled.mono e84
        replace h_longer := h_longer.mono e84
        replace h_places := h_places.mono e84
        replace h_found := h_found.mono e84
        replace h_inner := h_inner.mono e84
        refine bl_never (q := (((found).isNone && (!((m_judge_noticed (many) (((places).filter fun x81 => (!decide (x81 = x75))).map fun x81 => x81))).isNone)) || (!(showsV (m_judge_noticed (many) (((places).filter fun x81 => (!decide (x81 = x75))).map fun x81 => x81)) many (((places).filter fun x87 => (!decide (x87 = x75))).map fun x87 => x87))))) (et_w (ew_or (et_w (ew_and (et_V Bf (ev_var (i := 20) rfl h_found) (hr.mono (by decide))) (fun hb85 => (ew_and1 (et_not (et_V Bf (ev_var (i := 22) rfl h_less) (hr.mono (by decide)))))))) (fun hb86 => (ew_or1 (et_not (et_val (ev_showsV Y Ms (ev_var (i := 22) rfl h_less) (hr.mono (by decide)) (ev_var (i := 2) rfl (.int _)) (ev_ofLc (lc_F (own := [("late", 14)]) (f := D.int) (g := D.int) (fun x87 => (!decide (x87 = x75))) (fun x87 => x87) (ei_row (ev_var (i := 18) rfl h_places)) (by first | assumption | omega | (simp only [List.length_map, enumT_len, rg_len]; omega) | (simp; done) | (simp; omega)) (fun x87 hx88 v_ F1_ e_ r89 => by
      replace h_script := h_script.mono e_
      replace h_sa := h_sa.mono e_
      replace h_words := h_words.mono e_
      replace h_others := h_others.mono e_
      replace h_one := h_one.mono e_
      replace h_two := h_two.mono e_
      replace h_both := h_both.mono e_
      replace h_zero := h_zero.mono e_
      replace h_scaled := h_scaled.mono e_
      replace h_longer := h_longer.mono e_
      replace h_places := h_places.mono e_
      replace h_found := h_found.mono e_
      replace h_inner := h_inner.mono e_
      replace h_less := h_less.mono e_
      intro s_ H0_ C_ cl_ fp_
      cases r89
      refine tg_name (i := 14) ?_
      refine ⟨rfl, fun s_ H0_ C_ cl_ fp_ => ?_, fun ht_ s_ H0_ C_ cl_ fp_ => ?_⟩
      · exact ets_one (et_cm (ev_var (i := 14) rfl (.int _)) (ev_var (i := 19) rfl (.int _)) (cm_ne (f := D.int) (x := x87) (y := x75) hr lw_int))
      · exact (ev_var (i := 14) rfl (.int _)))) (ok := blkOk_by (N := N27) (sc := defScope s27) (by decide +kernel))) (by exact jokF hm1 hm2 hp_ _)))))))) (by exact nv7 hm1 hm2 hp_ hfound) ?_
        exact bl_nil ⟨_, _, rfl, rfl⟩
      · replace h_script := h_script.mono e_
        replace h_sa := h_sa.mono e_
        replace h_words := h_words.mono e_
        replace h_others := h_others.mono e_
        replace h_one := h_one.mono e_
        replace h_two := h_two.mono e_
        replace h_both := h_both.mono e_
        replace h_zero := h_zero.mono e_
        replace h_scaled := h_scaled.mono e_
        replace h_longer := h_longer.mono e_
        replace h_places := h_places.mono e_
        replace h_found := h_found.mono e_
        replace h_inner := h_inner.mono e_
        obtain ⟨o_place, o_less, rfl, rfl⟩ := J_
        refine bl_forI (xs := (rg 0 (many + (2 : Int)))) (f := D.int) (ei_range1 T.range (ea_cons (ev_add (ev_var (i := 2) rfl (.int _)) ev_int) ea_nil) (by omega) (by omega)) (fun (s91 : Unit) (x92 : Int) => ()) () (fun i_ (s_ : Unit) σ_ F_ W_ => ∃ (o_place : Option V), σ_ = [some v_script, some (.ref dl), some (.int many), some v_words, some v_others, none, some (.int factor), some v_one, some v_two, some v_both, some v_zero, o_at, some v_scaled, none, o_late, o_swapped, o_block, some v_longer, some v_places, o_place, some v_found, some v_inner, o_less, none, none, none, none, none, none] ∧ W_ = (WK W' dl sa k3)) (fun F_ e_ => ?_) (fun i96 x92 hi97 hx94 s91 σ_ F_ W_ e_ J_ v_ F2_ e2_ r95 => ?_) (fun σ_ F_ W_ e_ J_ => ?_)
        · replace h_script := h_script.mono e_
          replace h_sa := h_sa.mono e_
          replace h_words := h_words.mono e_
          replace h_others := h_others.mono e_
          replace h_one := h_one.mono e_
          replace h_two := h_two.mono e_
          replace h_both := h_both.mono e_
          replace h_zero := h_zero.mono e_
          replace h_scaled := h_scaled.mono e_
          replace h_longer := h_longer.mono e_
          replace h_places := h_places.mono e_
          replace h_found := h_found.mono e_
          replace h_inner := h_inner.mono e_
          exact ⟨_, rfl, rfl⟩
        · replace h_script := h_script.mono e_
          replace h_sa := h_sa.mono e_
          replace h_words := h_words.mono e_
          replace h_others := h_others.mono e_
          replace h_one := h_one.mono e_
          replace h_two := h_two.mono e_
          replace h_both := h_both.mono e_
          replace h_zero := h_zero.mono e_
          replace h_scaled := h_scaled.mono e_
          replace h_longer := h_longer.mono e_
          replace h_places := h_places.mono e_
          replace h_found := h_found.mono e_
          replace h_inner := h_inner.mono e_
          obtain ⟨o_place, rfl, rfl⟩ := J_
          replace h_script := h_script.mono e2_
          replace h_sa := h_sa.mono e2_
          replace h_words := h_words.mono e2_
          replace h_others := h_others.mono e2_
          replace h_one := h_one.mono e2_
          replace h_two := h_two.mono e2_
          replace h_both := h_both.mono e2_
          replace h_zero := h_zero.mono e2_
          replace h_scaled := h_scaled.mono e2_
          replace h_longer := h_longer.mono e2_
          replace h_places := h_places.mono e2_
          replace h_found := h_found.mono e2_
          replace h_inner := h_inner.mono e2_
          have hx94m := rg_mem.mp hx94
          cases r95
          refine tg_name (i := 19) ?_
          refine bl_never (q := ((!decide (x92 ∈ places)) && ((!decide ((((places).filter fun x65 => (decide (x65 < many))).map fun x65 => x65) = ([] : List Int))) && ((!(found).isNone) && ((m_judge_noticed (many) (places ++ (x92 :: ([] : List Int))))).isNone)))) (et_w (ew_and (et_cm (ev_var (i := 19) rfl (.int _)) (ev_var (i := 18) rfl h_places) (cm_ni (f := D.int) (x := x92) (xs := places) hr lw_int) (by with_unfolding_all rfl)) (fun hb98 => (ew_and (et_cm (ev_var (i := 21) rfl h_inner) (ev_lstR ([] : List Int) (ea_nilR (f := D.int)) (by simp [rg_len, enumT_len]; try omega)) (cm_ne (f := (eR false D.int)) (x := (((places).filter fun x65 => (decide (x65 < many))).map fun x65 => x65)) (y := ([] : List Int)) hr (Lw.row lw_int))) (fun hb99 => (ew_and (et_not (et_V Bf (ev_var (i := 20) rfl h_found) (hr.mono (by decide)))) (fun hb100 => (ew_and1 (et_V Bf (ev_call C_judge_noticed (hr.mono (by decide)) (ea_cons (ev_var (i := 2) rfl (.int _)) (ea_cons (ev_catR (ev_var (i := 18) rfl h_places) (ev_lstR (x92 :: ([] : List Int)) (ea_consR (f := D.int) (x := x92) (ev_var (i := 19) rfl (.int _)) (ea_nilR (f := D.int))) (by simp [rg_len, enumT_len]; try omega)) (by have := hP.2.2.2.2; show places.length + 1 ≤ 100000; omega)) ea_nil)) (⟨false, (many), (places ++ (x92 :: ([] : List Int))), (by exact jokA hm1 hm2 hp_ (by assumption) (by omega)), rfl, rfl⟩)) (hr.mono (by decide))))))))))) (by exact nv8 hm1 hm2 hp_ hfound (by omega)) ?_
          exact bl_nil ⟨_, rfl, rfl⟩
        · replace h_script := h_script.mono e_
          replace h_sa := h_sa.mono e_
          replace h_words := h_words.mono e_
          replace h_others := h_others.mono e_
          replace h_one := h_one.mono e_
          replace h_two := h_two.mono e_
          replace h_both := h_both.mono e_
          replace h_zero := h_zero.mono e_
          replace h_scaled := h_scaled.mono e_
          replace h_longer := h_longer.mono e_
          replace h_places := h_places.mono e_
          replace h_found := h_found.mono e_
          replace h_inner := h_inner.mono e_
          obtain ⟨o_place, rfl, rfl⟩ := J_
          refine bl_when (q := (!(found).isNone)) (et_not (et_V Bf (ev_var (i := 20) rfl h_found) (hr.mono (by decide)))) (fun hq102 => ?_) (fun hq102 => ?_)
          · obtain ⟨fp, rfl⟩ : ∃ p, found = some p := by cases found with | none => simp at hq102 | some p => exact ⟨p, rfl⟩
            obtain ⟨wa, wb, rfl, hA, hB, hd_, hne_⟩ := fp_of hm1 hm2 hp_ hfound
            replace h_found : Rep _ v_found (eH CH (m_block_of wa, m_block_of wb)) := h_found
            refine bl_par2 (i := 23) (j := 24) (ea_cons (ev_bty T.list cl_listR (ea_cons (ev_is (d1 := eR true D.int (((m_words_in ((m_block_of wa, m_block_of wb)).1)).getD [])) (ev_call C_words_in (hr.mono (by decide)) (ea_cons (ev_fld (ev_var (i := 20) rfl h_found) Y.h.cls Y.one rfl) ea_nil) (.inr ⟨true, ((m_block_of wa, m_block_of wb)).1, rfl, rfl⟩)) (eO_get (by show (m_words_in (m_block_of wa)).isSome = true; rw [words_blk hA.1]; rfl))) ea_nil) rfl) (ea_cons (ev_bty T.list cl_listR (ea_cons (ev_is (d1 := eR true D.int (((m_words_in ((m_block_of wa, m_block_of wb)).2)).getD [])) (ev_call C_words_in (hr.mono (by decide)) (ea_cons (ev_fld (ev_var (i := 20) rfl h_found) Y.h.cls Y.other rfl) ea_nil) (.inr ⟨true, ((m_block_of wa, m_block_of wb)).2, rfl, rfl⟩)) (eO_get (by show (m_words_in (m_block_of wb)).isSome = true; rw [words_blk hB.1]; rfl))) ea_nil) rfl) ea_nil)) (fun v_first v_last F_ e103 h_first h_last => ?_)
            replace h_script := h_script.mono e103
            replace h_sa := h_sa.mono e103
            replace h_words := h_words.mono e103
            replace h_others := h_others.mono e103
            replace h_one := h_one.mono e103
            replace h_two := h_two.mono e103
            replace h_both := h_both.mono e103
            replace h_zero := h_zero.mono e103
            replace h_scaled := h_scaled.mono e103
            replace h_longer := h_longer.mono e103
            replace h_places := h_places.mono e103
            replace h_found := h_found.mono e103
            replace h_inner := h_inner.mono e103
            refine bl_asg (i := 25) (ev_is (d1 := eH CH ((m_block_of (m__law_added (((m_words_in ((m_block_of wa, m_block_of wb)).1)).getD []) (words))), (m_block_of (m__law_added (((m_words_in ((m_block_of wa, m_block_of wb)).2)).getD []) (words))))) (ev_make InH (hr.mono (by decide)) (ea_cons (ev_call C_block_of (hr.mono (by decide)) (ea_cons (ev_call C__law_added (hr.mono (by decide)) (ea_cons (ev_var (i := 23) rfl h_first) (ea_cons (ev_var (i := 3) rfl h_words) ea_nil)) (⟨false, false, (((m_words_in ((m_block_of wa, m_block_of wb)).1)).getD []), (words), rfl, rfl⟩)) ea_nil) (⟨false, (m__law_added (((m_words_in ((m_block_of wa, m_block_of wb)).1)).getD []) (words)), (by show Wds (m__law_added ((m_words_in (m_block_of wa)).getD []) words); rw [words_blk hA.1]; exact added_wds hA.1), rfl, rfl⟩)) (ea_cons (ev_call C_block_of (hr.mono (by decide)) (ea_cons (ev_call C__law_added (hr.mono (by decide)) (ea_cons (ev_var (i := 24) rfl h_last) (ea_cons (ev_var (i := 3) rfl h_words) ea_nil)) (⟨false, false, (((m_words_in ((m_block_of wa, m_block_of wb)).2)).getD []), (words), rfl, rfl⟩)) ea_nil) (⟨false, (m__law_added (((m_words_in ((m_block_of wa, m_block_of wb)).2)).getD []) (words)), (by show Wds (m__law_added ((m_words_in (m_block_of wb)).getD []) words); rw [words_blk hB.1]; exact added_wds hB.1), rfl, rfl⟩)) ea_nil)) ⟨_, _, (m_block_of (m__law_added (((m_words_in ((m_block_of wa, m_block_of wb)).1)).getD []) (words))), (m_block_of (m__law_added (((m_words_in ((m_block_of wa, m_block_of wb)).2)).getD []) (words))), rfl, rfl⟩) rfl) (fun v_moved F_ e104 h_moved => ?_)
            replace h_script := h_script.mono e104
            replace h_sa := h_sa.mono e104
            replace h_words := h_words.mono e104
            replace h_others := h_others.mono e104
            replace h_one := h_one.mono e104
            replace h_two := h_two.mono e104
            replace h_both := h_both.mono e104
            replace h_zero := h_zero.mono e104
            replace h_scaled := h_scaled.mono e104
            replace h_longer := h_longer.mono e104
            replace h_places := h_places.mono e104
            replace h_found := h_found.mono e104
            replace h_inner := h_inner.mono e104
            replace h_first := h_first.mono e104
            replace h_last := h_last.mono e104
            refine bl_asg (i := 26) (ev_is (d1 := eH CH ((m_block_of (((((m_words_in ((m_block_of wa, m_block_of wb)).1)).getD [])).map fun x105 => ((factor * x105) % (9973 : Int)))), (m_block_of (((((m_words_in ((m_block_of wa, m_block_of wb)).2)).getD [])).map fun x108 => ((factor * x108) % (9973 : Int)))))) (ev_make InH (hr.mono (by decide)) (ea_cons (ev_call C_block_of (hr.mono (by decide)) (ea_cons (ev_ofLc (lc_M (own := [("word", 13)]) (f := D.int) (g := D.int) (fun x105 => ((factor * x105) % (9973 : Int))) (ei_row (ev_var (i := 23) rfl h_first)) (by show ((m_words_in (m_block_of wa)).getD []).length ≤ 100000; rw [words_blk hA.1]; have := hA.1.1; show wa.length ≤ 100000; omega) (fun x105 hx106 v_ F1_ e_ r107 => by
      replace h_script := h_script.mono e_
      replace h_sa := h_sa.mono e_
      replace h_words := h_words.mono e_
      replace h_others := h_others.mono e_
      replace h_one := h_one.mono e_
      replace h_two := h_two.mono e_
      replace h_both := h_both.mono e_
      replace h_zero := h_zero.mono e_
      replace h_scaled := h_scaled.mono e_
      replace h_longer := h_longer.mono e_
      replace h_places := h_places.mono e_
      replace h_found := h_found.mono e_
      replace h_inner := h_inner.mono e_
      replace h_first := h_first.mono e_
      replace h_last := h_last.mono e_
      replace h_moved := h_moved.mono e_
      intro s_ H0_ C_ cl_ fp_
      cases r107
      refine tg_name (i := 13) ?_
      refine ⟨rfl, fun s_ H0_ C_ cl_ fp_ => ?_, fun ht_ s_ H0_ C_ cl_ fp_ => ?_⟩
      · exact ets_nil
      · exact (ev_mod (ev_mul (ev_var (i := 6) rfl (.int _)) (ev_var (i := 13) rfl (.int _)) (by first | exact Or.inl ⟨by omega, by omega⟩ | exact Or.inr ⟨by omega, by omega⟩)) ev_int (by first | decide | omega)))) (ok := blkOk_by (N := N27) (sc := defScope s27) (by decide +kernel))) ea_nil) (⟨false, (((((m_words_in ((m_block_of wa, m_block_of wb)).1)).getD [])).map fun x105 => ((factor * x105) % (9973 : Int))), (by show Wds (((m_words_in (m_block_of wa)).getD []).map _); rw [words_blk hA.1]; exact scaled_wds hA.1.1), rfl, rfl⟩)) (ea_cons (ev_call C_block_of (hr.mono (by decide)) (ea_cons (ev_ofLc (lc_M (own := [("word", 13)]) (f := D.int) (g := D.int) (fun x108 => ((factor * x108) % (9973 : Int))) (ei_row (ev_var (i := 24) rfl h_last)) (by show ((m_words_in (m_block_of wb)).getD []).length ≤ 100000; rw [words_blk hB.1]; have := hB.1.1; show wb.length ≤ 100000; omega) (fun x108 hx109 v_ F1_ e_ r110 => by
      replace h_script := h_script.mono e_
      replace h_sa := h_sa.mono e_
      replace h_words := h_words.mono e_
      replace h_others := h_others.mono e_
      replace h_one := h_one.mono e_
      replace h_two := h_two.mono e_
      replace h_both := h_both.mono e_
      replace h_zero := h_zero.mono e_
      replace h_scaled := h_scaled.mono e_
      replace h_longer := h_longer.mono e_
      replace h_places := h_places.mono e_
      replace h_found := h_found.mono e_
      replace h_inner := h_inner.mono e_
      replace h_first := h_first.mono e_
      replace h_last := h_last.mono e_
      replace h_moved := h_moved.mono e_
      intro s_ H0_ C_ cl_ fp_
      cases r110
      refine tg_name (i := 13) ?_
      refine ⟨rfl, fun s_ H0_ C_ cl_ fp_ => ?_, fun ht_ s_ H0_ C_ cl_ fp_ => ?_⟩
      · exact ets_nil
      · exact (ev_mod (ev_mul (ev_var (i := 6) rfl (.int _)) (ev_var (i := 13) rfl (.int _)) (by first | exact Or.inl ⟨by omega, by omega⟩ | exact Or.inr ⟨by omega, by omega⟩)) ev_int (by first | decide | omega)))) (ok := blkOk_by (N := N27) (sc := defScope s27) (by decide +kernel))) ea_nil) (⟨false, (((((m_words_in ((m_block_of wa, m_block_of wb)).2)).getD [])).map fun x108 => ((factor * x108) % (9973 : Int))), (by show Wds (((m_words_in (m_block_of wb)).getD []).map _); rw [words_blk hB.1]; exact scaled_wds hB.1.1), rfl, rfl⟩)) ea_nil)) ⟨_, _, (m_block_of (((((m_words_in ((m_block_of wa, m_block_of wb)).1)).getD [])).map fun x105 => ((factor * x105) % (9973 : Int)))), (m_block_of (((((m_words_in ((m_block_of wa, m_block_of wb)).2)).getD [])).map fun x108 => ((factor * x108) % (9973 : Int)))), rfl, rfl⟩) rfl) (fun v_wide F_ e111 h_wide => ?_)
            replace h_script := h_script.mono e111
            replace h_sa := h_sa.mono e111
            replace h_words := h_words.mono e111
            replace h_others := h_others.mono e111
            replace h_one := h_one.mono e111
            replace h_two := h_two.mono e111
            replace h_both := h_both.mono e111
            replace h_zero := h_zero.mono e111
            replace h_scaled := h_scaled.mono e111
            replace h_longer := h_longer.mono e111
            replace h_places := h_places.mono e111
            replace h_found := h_found.mono e111
            replace h_inner := h_inner.mono e111
            replace h_first := h_first.mono e111
            replace h_last := h_last.mono e111
            replace h_moved := h_moved.mono e111
            refine bl_never (q := ((!(m_Hidden_shows ((m_block_of (m__law_added (((m_words_in ((m_block_of wa, m_block_of wb)).1)).getD []) (words))), (m_block_of (m__law_added (((m_words_in ((m_block_of wa, m_block_of wb)).2)).getD []) (words)))) many places)) || ((!(m_Hidden_shows ((m_block_of (((((m_words_in ((m_block_of wa, m_block_of wb)).1)).getD [])).map fun x105 => ((factor * x105) % (9973 : Int)))), (m_block_of (((((m_words_in ((m_block_of wa, m_block_of wb)).2)).getD [])).map fun x108 => ((factor * x108) % (9973 : Int))))) many places)) || ((!(m_Hidden_shows (((m_block_of wa, m_block_of wb)).2, ((m_block_of wa, m_block_of wb)).1) many places)) || (m_Hidden_shows (((m_block_of wa, m_block_of wb)).1, ((m_block_of wa, m_block_of wb)).1) many places))))) (et_w (ew_or (et_not (et_val (ev_showsH Y Ms (ev_var (i := 25) rfl h_moved) (hr.mono (by decide)) (ev_var (i := 2) rfl (.int _)) (ev_var (i := 18) rfl h_places) (by assumption)))) (fun hb112 => (ew_or (et_not (et_val (ev_showsH Y Ms (ev_var (i := 26) rfl h_wide) (hr.mono (by decide)) (ev_var (i := 2) rfl (.int _)) (ev_var (i := 18) rfl h_places) (by assumption)))) (fun hb113 => (ew_or (et_not (et_val (ev_showsH Y Ms (ev_is (d1 := eH CH (((m_block_of wa, m_block_of wb)).2, ((m_block_of wa, m_block_of wb)).1)) (ev_make InH (hr.mono (by decide)) (ea_cons (ev_fld (ev_var (i := 20) rfl h_found) Y.h.cls Y.other rfl) (ea_cons (ev_fld (ev_var (i := 20) rfl h_found) Y.h.cls Y.one rfl) ea_nil)) ⟨_, _, ((m_block_of wa, m_block_of wb)).2, ((m_block_of wa, m_block_of wb)).1, rfl, rfl⟩) rfl) (hr.mono (by decide)) (ev_var (i := 2) rfl (.int _)) (ev_var (i := 18) rfl h_places) (by assumption)))) (fun hb114 => (ew_or1 (et_val (ev_showsH Y Ms (ev_is (d1 := eH CH (((m_block_of wa, m_block_of wb)).1, ((m_block_of wa, m_block_of wb)).1)) (ev_make InH (hr.mono (by decide)) (ea_cons (ev_fld (ev_var (i := 20) rfl h_found) Y.h.cls Y.one rfl) (ea_cons (ev_fld (ev_var (i := 20) rfl h_found) Y.h.cls Y.one rfl) ea_nil)) ⟨_, _, ((m_block_of wa, m_block_of wb)).1, ((m_block_of wa, m_block_of wb)).1, rfl, rfl⟩) rfl) (hr.mono (by decide)) (ev_var (i := 2) rfl (.int _)) (ev_var (i := 18) rfl h_places) (by assumption))))))))))) (by exact nv9 ⟨hf1, hf2⟩ hp_ (by omega) hA hB hd_ hne_) ?_
            refine bl_asgLc (i := 27) (lc_F (own := [("place", 19)]) (f := D.int) (g := D.int) (fun x116 => (!decide ((ixI 0 ((m_block_of wa, m_block_of wb)).1 x116) = (ixI 0 ((m_block_of wa, m_block_of wb)).2 x116)))) (fun x116 => x116) (ei_range1 T.range (ea_cons (ev_add (ev_var (i := 2) rfl (.int _)) ev_int) ea_nil) (by omega) (by omega)) (by first | assumption | omega | (simp only [List.length_map, enumT_len, rg_len]; omega) | (simp; done) | (simp; omega)) (fun x116 hx117 v_ F1_ e_ r118 => by
      replace h_script := h_script.mono e_
      replace h_sa := h_sa.mono e_
      replace h_words := h_words.mono e_
      replace h_others := h_others.mono e_
      replace h_one := h_one.mono e_
      replace h_two := h_two.mono e_
      replace h_both := h_both.mono e_
      replace h_zero := h_zero.mono e_
      replace h_scaled := h_scaled.mono e_
      replace h_longer := h_longer.mono e_
      replace h_places := h_places.mono e_
      replace h_found := h_found.mono e_
      replace h_inner := h_inner.mono e_
      replace h_first := h_first.mono e_
      replace h_last := h_last.mono e_
      replace h_moved := h_moved.mono e_
      replace h_wide := h_wide.mono e_
      have hx117m := rg_mem.mp hx117
      intro s_ H0_ C_ cl_ fp_
      cases r118
      refine tg_name (i := 19) ?_
      refine ⟨rfl, fun s_ H0_ C_ cl_ fp_ => ?_, fun ht_ s_ H0_ C_ cl_ fp_ => ?_⟩
      · exact ets_one (et_cm (ev_ix (ev_fld (ev_var (i := 20) rfl h_found) Y.h.cls Y.one rfl) (ev_var (i := 19) rfl (.int _)) (ixI_at (d := 0) (by show -((m_block_of wa).length : Int) ≤ _ ∧ _ < ((m_block_of wa).length : Int); rw [blk_len]; have := hA.2; omega))) (ev_ix (ev_fld (ev_var (i := 20) rfl h_found) Y.h.cls Y.other rfl) (ev_var (i := 19) rfl (.int _)) (ixI_at (d := 0) (by show -((m_block_of wb).length : Int) ≤ _ ∧ _ < ((m_block_of wb).length : Int); rw [blk_len]; have := hB.2; omega))) (cm_ne (f := D.int) (x := (ixI 0 ((m_block_of wa, m_block_of wb)).1 x116)) (y := (ixI 0 ((m_block_of wa, m_block_of wb)).2 x116)) hr lw_int))
      · exact (ev_var (i := 19) rfl (.int _)))) (ok := blkOk_by (N := N27) (sc := defScope s27) (by decide +kernel)) (fun v_apart F_ e119 h_apart => ?_)
            have hl_apart := rep_len h_apart
            replace h_script := h_script.mono e119
            replace h_sa := h_sa.mono e119
            replace h_words := h_words.mono e119
            replace h_others := h_others.mono e119
            replace h_one := h_one.mono e119
            replace h_two := h_two.mono e119
            replace h_both := h_both.mono e119
            replace h_zero := h_zero.mono e119
            replace h_scaled := h_scaled.mono e119
            replace h_longer := h_longer.mono e119
            replace h_places := h_places.mono e119
            replace h_found := h_found.mono e119
            replace h_inner := h_inner.mono e119
            replace h_first := h_first.mono e119
            replace h_last := h_last.mono e119
            replace h_moved := h_moved.mono e119
            replace h_wide := h_wide.mono e119
            refine bl_never (q := ((!decide (((((rg 0 (many + (2 : Int)))).filter fun x116 => (!decide ((ixI 0 ((m_block_of wa, m_block_of wb)).1 x116) = (ixI 0 ((m_block_of wa, m_block_of wb)).2 x116)))).map fun x116 => x116) = (sortI places))) || ((((((rg 0 ((places).length : Int))).map fun x121 => (m_Hidden_shows (((m_block_of wa, m_block_of wb)).1, ((m_block_of wa, m_block_of wb)).2) many ((cutL places none (some x121)) ++ (cutL places (some (x121 + (1 : Int))) none))))).any id) || (m_Hidden_shows ((cutL ((m_block_of wa, m_block_of wb)).1 (some (1 : Int)) none), (cutL ((m_block_of wa, m_block_of wb)).2 (some (1 : Int)) none)) many places)))) (et_w (ew_or (et_cm (ev_var (i := 27) rfl h_apart) (ev_blt T.sorted cl_sortedB (ea_cons (ev_var (i := 18) rfl h_places) ea_nil) rfl) (cm_ne (f := (eR false D.int)) (x := ((((rg 0 (many + (2 : Int)))).filter fun x116 => (!decide ((ixI 0 ((m_block_of wa, m_block_of wb)).1 x116) = (ixI 0 ((m_block_of wa, m_block_of wb)).2 x116)))).map fun x116 => x116)) (y := (sortI places)) hr (Lw.row lw_int))) (fun hb120 => (ew_or (et_val (ev_blt T.any cl_any (ea_cons (ev_ofLc (lc_M (own := [("at", 11)]) (f := D.int) (g := D.bl) (fun x121 => (m_Hidden_shows (((m_block_of wa, m_block_of wb)).1, ((m_block_of wa, m_block_of wb)).2) many ((cutL places none (some x121)) ++ (cutL places (some (x121 + (1 : Int))) none)))) (ei_range1 T.range (ea_cons (ev_blt T.len cl_lenR (ea_cons (ev_var (i := 18) rfl h_places) ea_nil) rfl) ea_nil) (by omega) (by omega)) (by first | assumption | omega | (simp only [List.length_map, enumT_len, rg_len]; omega) | (simp; done) | (simp; omega)) (fun x121 hx122 v_ F1_ e_ r123 => by
      replace h_script := h_script.mono e_
      replace h_sa := h_sa.mono e_
      replace h_words := h_words.mono e_
      replace h_others := h_others.mono e_
      replace h_one := h_one.mono e_
      replace h_two := h_two.mono e_
      replace h_both := h_both.mono e_
      replace h_zero := h_zero.mono e_
      replace h_scaled := h_scaled.mono e_
      replace h_longer := h_longer.mono e_
      replace h_places := h_places.mono e_
      replace h_found := h_found.mono e_
      replace h_inner := h_inner.mono e_
      replace h_first := h_first.mono e_
      replace h_last := h_last.mono e_
      replace h_moved := h_moved.mono e_
      replace h_wide := h_wide.mono e_
      replace h_apart := h_apart.mono e_
      have hx122m := rg_mem.mp hx122
      intro s_ H0_ C_ cl_ fp_
      cases r123
      refine tg_name (i := 11) ?_
      refine ⟨rfl, fun s_ H0_ C_ cl_ fp_ => ?_, fun ht_ s_ H0_ C_ cl_ fp_ => ?_⟩
      · exact ets_nil
      · exact (ev_showsH Y Ms (ev_is (d1 := eH CH (((m_block_of wa, m_block_of wb)).1, ((m_block_of wa, m_block_of wb)).2)) (ev_make InH (hr.mono (by decide)) (ea_cons (ev_fld (ev_var (i := 20) rfl h_found) Y.h.cls Y.one rfl) (ea_cons (ev_fld (ev_var (i := 20) rfl h_found) Y.h.cls Y.other rfl) ea_nil)) ⟨_, _, ((m_block_of wa, m_block_of wb)).1, ((m_block_of wa, m_block_of wb)).2, rfl, rfl⟩) rfl) (hr.mono (by decide)) (ev_var (i := 2) rfl (.int _)) (ev_catR (ev_sl (l := none) (u := (some x121)) (ev_var (i := 18) rfl h_places) eo_none (eo_some (ev_var (i := 11) rfl (.int _)))) (ev_sl (l := (some (x121 + (1 : Int)))) (u := none) (ev_var (i := 18) rfl h_places) (eo_some (ev_add (ev_var (i := 11) rfl (.int _)) ev_int)) eo_none) (by refine Nat.le_trans (Nat.add_le_add (cutL_len _ _ _) (cutL_len _ _ _)) (by have := hP.2.2.2.2; omega))) (by exact pls_cut hm1 (by omega) hp_ (by omega))))) (ok := blkOk_by (N := N27) (sc := defScope s27) (by decide +kernel))) ea_nil) rfl)) (fun hb124 => (ew_or1 (et_val (ev_showsH Y Ms (ev_is (d1 := eH CH ((cutL ((m_block_of wa, m_block_of wb)).1 (some (1 : Int)) none), (cutL ((m_block_of wa, m_block_of wb)).2 (some (1 : Int)) none))) (ev_make InH (hr.mono (by decide)) (ea_cons (ev_sl (l := (some (1 : Int))) (u := none) (ev_fld (ev_var (i := 20) rfl h_found) Y.h.cls Y.one rfl) (eo_some ev_int) eo_none) (ea_cons (ev_sl (l := (some (1 : Int))) (u := none) (ev_fld (ev_var (i := 20) rfl h_found) Y.h.cls Y.other rfl) (eo_some ev_int) eo_none) ea_nil)) ⟨_, _, (cutL ((m_block_of wa, m_block_of wb)).1 (some (1 : Int)) none), (cutL ((m_block_of wa, m_block_of wb)).2 (some (1 : Int)) none), rfl, rfl⟩) rfl) (hr.mono (by decide)) (ev_var (i := 2) rfl (.int _)) (ev_var (i := 18) rfl h_places) (by assumption))))))))) (by exact nv10 hp_ hA hB hd_ hne_) ?_
            refine bl_nil ?_
            show BlkS _ _ _ _ _ _
            refine bl_asgN (i := 28) (en_listR T.list (ev_var (i := 7) rfl h_one)) (fun l_mixed vs_mixed F_ e126 h_mixed wn_mixed => ?_)
            replace h_mixed : Reps F_ vs_mixed (((m_block_of (words))).map D.int) := h_mixed
            replace h_script := h_script.mono e126
            replace h_sa := h_sa.mono e126
            replace h_words := h_words.mono e126
            replace h_others := h_others.mono e126
            replace h_one := h_one.mono e126
            replace h_two := h_two.mono e126
            replace h_both := h_both.mono e126
            replace h_zero := h_zero.mono e126
            replace h_scaled := h_scaled.mono e126
            replace h_longer := h_longer.mono e126
            replace h_places := h_places.mono e126
            replace h_found := h_found.mono e126
            replace h_inner := h_inner.mono e126
            replace h_first := h_first.mono e126
            replace h_last := h_last.mono e126
            replace h_moved := h_moved.mono e126
            replace h_wide := h_wide.mono e126
            replace h_apart := h_apart.mono e126
            have e_mx := Reps.ints h_mixed
            subst e_mx
            have ne_ : dl ≠ l_mixed := fun h => by rw [← h, WK_at] at wn_mixed; cases wn_mixed
            have wm_ : W' l_mixed = none := by have := wn_mixed; unfold WK at this; rw [upd_ne (Ne.symm ne_)] at this; exact this
            rw [WK_new ne_]
            exact tail_law T Y Bf Ms InH C_words_in C_judge_noticed C_block_of C_take hr hz_ hm1 hm2 hWw hwl hp_ hfound (vo := v_one) (vp := v_places) (vf := v_found) ⟨rfl, rfl, rfl, rfl, rfl, rfl, rfl⟩ h_sa h_one h_places h_found wn_draw wm_ ne_
          · refine bl_asgN (i := 28) (en_listR T.list (ev_var (i := 7) rfl h_one)) (fun l_mixed vs_mixed F_ e129 h_mixed wn_mixed => ?_)
            replace h_mixed : Reps F_ vs_mixed (((m_block_of (words))).map D.int) := h_mixed
            replace h_script := h_script.mono e129
            replace h_sa := h_sa.mono e129
            replace h_words := h_words.mono e129
            replace h_others := h_others.mono e129
            replace h_one := h_one.mono e129
            replace h_two := h_two.mono e129
            replace h_both := h_both.mono e129
            replace h_zero := h_zero.mono e129
            replace h_scaled := h_scaled.mono e129
            replace h_longer := h_longer.mono e129
            replace h_places := h_places.mono e129
            replace h_found := h_found.mono e129
            replace h_inner := h_inner.mono e129
            have e_mx := Reps.ints h_mixed
            subst e_mx
            have ne_ : dl ≠ l_mixed := fun h => by rw [← h, WK_at] at wn_mixed; cases wn_mixed
            have wm_ : W' l_mixed = none := by have := wn_mixed; unfold WK at this; rw [upd_ne (Ne.symm ne_)] at this; exact this
            rw [WK_new ne_]
            exact tail_law T Y Bf Ms InH C_words_in C_judge_noticed C_block_of C_take hr hz_ hm1 hm2 hWw hwl hp_ hfound (vo := v_one) (vp := v_places) (vf := v_found) ⟨rfl, rfl, rfl, rfl, rfl, rfl, rfl⟩ h_sa h_one h_places h_found wn_draw wm_ ne_
end
end B
set_option Elab.async false
set_option linter.all false
set_option maxRecDepth 100000
set_option maxHeartbeats 4000000
namespace B
open PySem PySem.Spec PyProof.Rows L2 Z
theorem spG_imp {r1 r2 : Rel} (h : ∀ ds F W d W', r2 ds F W d W' → r1 ds F W d W') : ∀ vs H Q E, spG r2 vs H Q E → spG r1 vs H Q E := fun vs H Q E ⟨F, W, ds, d, W', a, b, c, q⟩ => ⟨F, W, ds, d, W', a, b, h _ _ _ _ _ c, q⟩
theorem law_sp {K : PySem.W.Frag} {H : Hp} {a : Addr} {ns : List Int} (hl : ns.length ≤ 63) (hO : Only H) (hS : SqL K H a (ns.map V.int)) : spG (relP (r_law K)) [.ref a] H (fun v _ => v = .bl true) fun _ _ _ => False := by
  refine ⟨H, fun _ => none, [eZ K ns], .bl true, fun _ => none, ⟨fun b o h => .inl h, fun b o h => (by cases h), fun b o h => rfl⟩, .cons (.fz ?_ (Reps.of_ints ns) (by rw [List.length_map]; omega)) .nil, ⟨⟨ns, hl, rfl, rfl⟩, rfl⟩, fun v F' H' g r => by cases r; rfl⟩
  rcases hS with (h | ⟨o, h⟩) | h
  · rcases hO a with q | ⟨o, xs, q⟩
    · rw [q] at h; cases h
    · rw [q] at h; cases h
  · exact .inl ⟨o, h⟩
  · exact .inr h
theorem all_mk {l : PySem.W.OpenLaw} {w : World} {K : PySem.W.Frag} {h : Heap} {mg : Str → Option Value} {fa CN CH : Addr} (X : K.In h) (G : h.Ns mainGlobals mg) (hfa : mg "law" = some (.ref fa)) {t1 t2 : Tok}
    {f0 f1 f2 f3 f4 f5 f6 f7 f8 f9 f10 f11 f12 f13 f14 f15 f16 f17 f18 f19 f20 f21 f22 f23 : Addr} {od0 od1 od2 od3 od4 od5 od6 od7 od8 od9 od10 od11 od12 od13 od14 od15 od16 od17 od18 od19 od20 od21 od22 od23 : Option Addr} {an0 an1 an2 an3 an4 an5 an6 an7 an8 an9 an10 an11 an12 an13 an14 an15 an16 an17 an18 an19 an20 an21 an22 an23 : Option Addr} {sl0 sl1 sl2 sl3 sl4 sl5 sl6 sl7 sl8 sl9 sl10 sl11 sl12 sl13 sl14 sl15 sl16 sl17 sl18 sl19 sl20 sl21 sl22 sl23 : Array (Option Value)} {oc0 oc1 oc2 oc3 oc4 oc5 oc6 oc7 oc8 oc9 oc10 oc11 oc12 oc13 oc14 oc15 oc16 oc17 oc18 oc19 oc20 oc21 oc22 oc23 : Value} {kV0 kV1 kV2 kV3 kV4 kV5 kV6 kV7 kV8 kV9 kV10 kV11 kV12 kV13 kV14 kV15 kV16 kV17 kV18 kV19 kV20 kV21 kV22 kV23 : Value} {dc0 dc1 dc2 dc3 dc4 dc5 dc6 dc7 dc8 dc9 dc10 dc11 dc12 dc13 dc14 dc15 dc16 dc17 dc18 dc19 dc20 dc21 dc22 dc23 : Value} {pm0 pm1 pm2 pm3 pm4 pm5 pm6 pm7 pm8 pm9 pm10 pm11 pm12 pm13 pm14 pm15 pm16 pm17 pm18 pm19 pm20 pm21 pm22 pm23 : Value} {cd0 cd1 cd2 cd3 cd4 cd5 cd6 cd7 cd8 cd9 cd10 cd11 cd12 cd13 cd14 cd15 cd16 cd17 cd18 cd19 cd20 cd21 cd22 cd23 : Value} {ct0 ct1 ct2 ct3 ct4 ct5 ct6 ct7 ct8 ct9 ct10 ct11 ct12 ct13 ct14 ct15 ct16 ct17 ct18 ct19 ct20 ct21 ct22 ct23 : Value}
    (aN : PySem.W.nsIn K mainGlobals "Noticed" = some (some (.ref CN))) (aH : PySem.W.nsIn K mainGlobals "Hidden" = some (some (.ref CH))) (a0 : PySem.W.nsIn K mainGlobals "is_integer" = some (some (.ref f0))) (l0 : K.lookup f0 = some ⟨oc0, od0, .func (PySem.W.fnOf "is_integer" "is_integer" (defArgs s3) (defBody s3) (defScope s3) .none kV0 dc0 pm0 an0 cd0 ct0), sl0⟩) (c0 : PySem.W.codeIn K cd0 "is_integer" = true) (k0 : PySem.W.keepIn K (.ref f0) = true) (a1 : PySem.W.nsIn K mainGlobals "is_row" = some (some (.ref f1))) (l1 : K.lookup f1 = some ⟨oc1, od1, .func (PySem.W.fnOf "is_row" "is_row" (defArgs s4) (defBody s4) (defScope s4) .none kV1 dc1 pm1 an1 cd1 ct1), sl1⟩) (c1 : PySem.W.codeIn K cd1 "is_row" = true) (k1 : PySem.W.keepIn K (.ref f1) = true) (a2 : PySem.W.nsIn K mainGlobals "check_words" = some (some (.ref f2))) (l2 : K.lookup f2 = some ⟨oc2, od2, .func (PySem.W.fnOf "check_words" "check_words" (defArgs s9) (defBody s9) (defScope s9) .none kV2 dc2 pm2 an2 cd2 ct2), sl2⟩) (c2 : PySem.W.codeIn K cd2 "check_words" = true) (k2 : PySem.W.keepIn K (.ref f2) = true) (a3 : PySem.W.nsIn K mainGlobals "sums_of" = some (some (.ref f3))) (l3 : K.lookup f3 = some ⟨oc3, od3, .func (PySem.W.fnOf "sums_of" "sums_of" (defArgs s10) (defBody s10) (defScope s10) .none kV3 dc3 pm3 an3 cd3 ct3), sl3⟩) (c3 : PySem.W.codeIn K cd3 "sums_of" = true) (k3 : PySem.W.keepIn K (.ref f3) = true) (a4 : PySem.W.nsIn K mainGlobals "block_of" = some (some (.ref f4))) (l4 : K.lookup f4 = some ⟨oc4, od4, .func (PySem.W.fnOf "block_of" "block_of" (defArgs s11) (defBody s11) (defScope s11) .none kV4 dc4 pm4 an4 cd4 ct4), sl4⟩) (c4 : PySem.W.codeIn K cd4 "block_of" = true) (k4 : PySem.W.keepIn K (.ref f4) = true) (a5 : PySem.W.nsIn K mainGlobals "words_in" = some (some (.ref f5))) (l5 : K.lookup f5 = some ⟨oc5, od5, .func (PySem.W.fnOf "words_in" "words_in" (defArgs s12) (defBody s12) (defScope s12) .none kV5 dc5 pm5 an5 cd5 ct5), sl5⟩) (c5 : PySem.W.codeIn K cd5 "words_in" = true) (k5 : PySem.W.keepIn K (.ref f5) = true) (a6 : PySem.W.nsIn K mainGlobals "check_places" = some (some (.ref f6))) (l6 : K.lookup f6 = some ⟨oc6, od6, .func (PySem.W.fnOf "check_places" "check_places" (defArgs s15) (defBody s15) (defScope s15) .none kV6 dc6 pm6 an6 cd6 ct6), sl6⟩) (c6 : PySem.W.codeIn K cd6 "check_places" = true) (k6 : PySem.W.keepIn K (.ref f6) = true) (a7 : PySem.W.nsIn K mainGlobals "rows_of_changes" = some (some (.ref f7))) (l7 : K.lookup f7 = some ⟨oc7, od7, .func (PySem.W.fnOf "rows_of_changes" "rows_of_changes" (defArgs s18) (defBody s18) (defScope s18) .none kV7 dc7 pm7 an7 cd7 ct7), sl7⟩) (c7 : PySem.W.codeIn K cd7 "rows_of_changes" = true) (k7 : PySem.W.keepIn K (.ref f7) = true) (a8 : PySem.W.nsIn K mainGlobals "inverse" = some (some (.ref f8))) (l8 : K.lookup f8 = some ⟨oc8, od8, .func (PySem.W.fnOf "inverse" "inverse" (defArgs s20) (defBody s20) (defScope s20) .none kV8 dc8 pm8 an8 cd8 ct8), sl8⟩) (c8 : PySem.W.codeIn K cd8 "inverse" = true) (k8 : PySem.W.keepIn K (.ref f8) = true) (a9 : PySem.W.nsIn K mainGlobals "closed_row" = some (some (.ref f9))) (l9 : K.lookup f9 = some ⟨oc9, od9, .func (PySem.W.fnOf "closed_row" "closed_row" (defArgs s19) (defBody s19) (defScope s19) .none kV9 dc9 pm9 an9 cd9 ct9), sl9⟩) (c9 : PySem.W.codeIn K cd9 "closed_row" = true) (k9 : PySem.W.keepIn K (.ref f9) = true) (a10 : PySem.W.nsIn K mainGlobals "is_just" = some (some (.ref f10))) (l10 : K.lookup f10 = some ⟨oc10, od10, .func (PySem.W.fnOf "is_just" "is_just" (defArgs s21) (defBody s21) (defScope s21) .none kV10 dc10 pm10 an10 cd10 ct10), sl10⟩) (c10 : PySem.W.codeIn K cd10 "is_just" = true) (k10 : PySem.W.keepIn K (.ref f10) = true) (a11 : PySem.W.nsIn K mainGlobals "changes_of" = some (some (.ref f11))) (l11 : K.lookup f11 = some ⟨oc11, od11, .func (PySem.W.fnOf "changes_of" "changes_of" (defArgs s17) (defBody s17) (defScope s17) .none kV11 dc11 pm11 an11 cd11 ct11), sl11⟩) (c11 : PySem.W.codeIn K cd11 "changes_of" = true) (k11 : PySem.W.keepIn K (.ref f11) = true) (a12 : PySem.W.nsIn K mainGlobals "_law_number" = some (some (.ref f12))) (l12 : K.lookup f12 = some ⟨oc12, od12, .func (PySem.W.fnOf "_law_number" "_law_number" (defArgs s23) (defBody s23) (defScope s23) .none kV12 dc12 pm12 an12 cd12 ct12), sl12⟩) (c12 : PySem.W.codeIn K cd12 "_law_number" = true) (k12 : PySem.W.keepIn K (.ref f12) = true) (a13 : PySem.W.nsIn K mainGlobals "_law_take" = some (some (.ref f13))) (l13 : K.lookup f13 = some ⟨oc13, od13, .func (PySem.W.fnOf "_law_take" "_law_take" (defArgs s24) (defBody s24) (defScope s24) .none kV13 dc13 pm13 an13 cd13 ct13), sl13⟩) (c13 : PySem.W.codeIn K cd13 "_law_take" = true) (k13 : PySem.W.keepIn K (.ref f13) = true) (a14 : PySem.W.nsIn K mainGlobals "_law_pick" = some (some (.ref f14))) (l14 : K.lookup f14 = some ⟨oc14, od14, .func (PySem.W.fnOf "_law_pick" "_law_pick" (defArgs s25) (defBody s25) (defScope s25) .none kV14 dc14 pm14 an14 cd14 ct14), sl14⟩) (c14 : PySem.W.codeIn K cd14 "_law_pick" = true) (k14 : PySem.W.keepIn K (.ref f14) = true) (a15 : PySem.W.nsIn K mainGlobals "_law_added" = some (some (.ref f15))) (l15 : K.lookup f15 = some ⟨oc15, od15, .func (PySem.W.fnOf "_law_added" "_law_added" (defArgs s26) (defBody s26) (defScope s26) .none kV15 dc15 pm15 an15 cd15 ct15), sl15⟩) (c15 : PySem.W.codeIn K cd15 "_law_added" = true) (k15 : PySem.W.keepIn K (.ref f15) = true) (a16 : PySem.W.nsIn K mainGlobals "judge_noticed" = some (some (.ref f16))) (l16 : K.lookup f16 = some ⟨oc16, od16, .func (PySem.W.fnOf "judge_noticed" "judge_noticed" (defArgs s16) (defBody s16) (defScope s16) .none kV16 dc16 pm16 an16 cd16 ct16), sl16⟩) (c16 : PySem.W.codeIn K cd16 "judge_noticed" = true) (k16 : PySem.W.keepIn K (.ref f16) = true) (a17 : PySem.W.nsIn K mainGlobals "law" = some (some (.ref f17))) (l17 : K.lookup f17 = some ⟨oc17, od17, .func (PySem.W.fnOf "law" "law" (defArgs s27) (defBody s27) (defScope s27) .none kV17 dc17 pm17 an17 cd17 ct17), sl17⟩) (c17 : PySem.W.codeIn K cd17 "law" = true) (k17 : PySem.W.keepIn K (.ref f17) = true) (a18 : PySem.W.findIn K (.ref CN) "__bool__" = some (some (.ref f18))) (i18 : PySem.W.isFn K (.ref f18) = true) (l18 : K.lookup f18 = some ⟨oc18, od18, .func (PySem.W.fnOf "__bool__" "Noticed.__bool__" (defArgs s13x0) (defBody s13x0) (defScope s13x0) .none kV18 dc18 pm18 an18 cd18 ct18), sl18⟩) (c18 : PySem.W.codeIn K cd18 "Noticed.__bool__" = true) (k18 : PySem.W.keepIn K (.ref f18) = true) (a19 : PySem.W.findIn K (.ref CN) "__eq__" = some (some (.ref f19))) (i19 : PySem.W.isFn K (.ref f19) = true) (l19 : K.lookup f19 = some ⟨oc19, od19, .func (PySem.W.fnOf "__eq__" "Noticed.__eq__" (defArgs s13x1) (defBody s13x1) (defScope s13x1) .none kV19 dc19 pm19 an19 cd19 ct19), sl19⟩) (c19 : PySem.W.codeIn K cd19 "Noticed.__eq__" = true) (k19 : PySem.W.keepIn K (.ref f19) = true) (a20 : PySem.W.findIn K (.ref CN) "shows" = some (some (.ref f20))) (i20 : PySem.W.isFn K (.ref f20) = true) (l20 : K.lookup f20 = some ⟨oc20, od20, .func (PySem.W.fnOf "shows" "Noticed.shows" (defArgs s13x2) (defBody s13x2) (defScope s13x2) .none kV20 dc20 pm20 an20 cd20 ct20), sl20⟩) (c20 : PySem.W.codeIn K cd20 "Noticed.shows" = true) (k20 : PySem.W.keepIn K (.ref f20) = true) (a21 : PySem.W.findIn K (.ref CH) "__init__" = some (some (.ref f21))) (i21 : PySem.W.isFn K (.ref f21) = true) (l21 : K.lookup f21 = some ⟨oc21, od21, .func (PySem.W.fnOf "__init__" "Hidden.__init__" (defArgs s14x0) (defBody s14x0) (defScope s14x0) .none kV21 dc21 pm21 an21 cd21 ct21), sl21⟩) (c21 : PySem.W.codeIn K cd21 "Hidden.__init__" = true) (k21 : PySem.W.keepIn K (.ref f21) = true) (a22 : PySem.W.findIn K (.ref CH) "__bool__" = some (some (.ref f22))) (i22 : PySem.W.isFn K (.ref f22) = true) (l22 : K.lookup f22 = some ⟨oc22, od22, .func (PySem.W.fnOf "__bool__" "Hidden.__bool__" (defArgs s14x1) (defBody s14x1) (defScope s14x1) .none kV22 dc22 pm22 an22 cd22 ct22), sl22⟩) (c22 : PySem.W.codeIn K cd22 "Hidden.__bool__" = true) (k22 : PySem.W.keepIn K (.ref f22) = true) (a23 : PySem.W.findIn K (.ref CH) "shows" = some (some (.ref f23))) (i23 : PySem.W.isFn K (.ref f23) = true) (l23 : K.lookup f23 = some ⟨oc23, od23, .func (PySem.W.fnOf "shows" "Hidden.shows" (defArgs s14x3) (defBody s14x3) (defScope s14x3) .none kV23 dc23 pm23 an23 cd23 ct23), sl23⟩) (c23 : PySem.W.codeIn K cd23 "Hidden.shows" = true) (k23 : PySem.W.keepIn K (.ref f23) = true) (pgn : PySem.W.plainGet K CN Str.empty = true) (hdn : PySem.W.hasDictIn K CN = true) (pon : PySem.W.plainOver K CN = true) (san : PySem.W.findIn K (.ref CN) "__setattr__" = some (some (.builtin "object.__setattr__"))) (nen : PySem.W.findIn K (.ref CN) "__ne__" = some (some (.builtin "object.__ne__"))) (obn : PySem.W.mroIn K CN (.type "object") = some true) (cln : PySem.W.findIn K (.ref CN) "__class__" = some (some (.builtin "object.__class__"))) (mkn : PySem.W.makesIn K CN = true) (kcn : PySem.W.keepIn K (.ref CN) = true) (pgh : PySem.W.plainGet K CH Str.empty = true) (hdh : PySem.W.hasDictIn K CH = true) (poh : PySem.W.plainOver K CH = true) (sah : PySem.W.findIn K (.ref CH) "__setattr__" = some (some (.builtin "object.__setattr__"))) (neh : PySem.W.findIn K (.ref CH) "__ne__" = some (some (.builtin "object.__ne__"))) (obh : PySem.W.mroIn K CH (.type "object") = some true) (clh : PySem.W.findIn K (.ref CH) "__class__" = some (some (.builtin "object.__class__"))) (mkh : PySem.W.makesIn K CH = true) (kch : PySem.W.keepIn K (.ref CH) = true) (gt : PySem.W.specialIn K (.builtin "object.__class__") "__get__" = some (some (.builtin "getset_descriptor.__get__"))) (inn : PySem.W.findIn K (.ref CN) "__init__" = some (some (.builtin "object.__init__"))) (no1 : PySem.W.findIn K (.ref CH) "one" = some none) (no2 : PySem.W.findIn K (.ref CH) "other" = some none) (tk : PySem.W.takesIn K (.builtin "object.__class__") = some true) (nfn : PySem.W.notFirst K CN (.ref CN) = true) (pr : PySem.W.nsIn K mainGlobals "PRIME" = some (some (.int 9973 t1))) (mw : PySem.W.nsIn K mainGlobals "MOST_WORDS" = some (some (.int 40 t2))) (z0 : PySem.W.nsIn K mainGlobals "isinstance" = some none) (z1 : PySem.W.nsIn K mainGlobals "int" = some none) (z2 : PySem.W.nsIn K mainGlobals "bool" = some none) (z3 : PySem.W.nsIn K mainGlobals "len" = some none) (z4 : PySem.W.nsIn K mainGlobals "all" = some none) (z5 : PySem.W.nsIn K mainGlobals "any" = some none) (z6 : PySem.W.nsIn K mainGlobals "sum" = some none) (z7 : PySem.W.nsIn K mainGlobals "sorted" = some none) (z8 : PySem.W.nsIn K mainGlobals "set" = some none) (z9 : PySem.W.nsIn K mainGlobals "enumerate" = some none) (z10 : PySem.W.nsIn K mainGlobals "zip" = some none) (z11 : PySem.W.nsIn K mainGlobals "range" = some none) (z12 : PySem.W.nsIn K mainGlobals "max" = some none) (z13 : PySem.W.nsIn K mainGlobals "min" = some none) (z14 : PySem.W.nsIn K mainGlobals "list" = some none) (z15 : PySem.W.nsIn K mainGlobals "tuple" = some none) :
    ∃ fd : FuncData, (∀ (s : Shared) (v : Value), BindsTo s fd ⟨[v], []⟩ [("script", v)]) ∧ ∀ base : Heap, K.In base → base.Ns mainGlobals mg → FnOk l.prog w K mg base CX0 13 fa fd ["script"] (spG (relP (r_law K))) := by
  have e := hfa.symm.trans (PySem.W.mg_of X G a17)
  cases e
  have T : Txt K mg := { isinstance := PySem.W.mg_none_of X G z0, int := PySem.W.mg_none_of X G z1, bool := PySem.W.mg_none_of X G z2, len := PySem.W.mg_none_of X G z3, all := PySem.W.mg_none_of X G z4, any := PySem.W.mg_none_of X G z5, sum := PySem.W.mg_none_of X G z6, sorted := PySem.W.mg_none_of X G z7, set := PySem.W.mg_none_of X G z8, enumerate := PySem.W.mg_none_of X G z9, zip := PySem.W.mg_none_of X G z10, range := PySem.W.mg_none_of X G z11, max := PySem.W.mg_none_of X G z12, min := PySem.W.mg_none_of X G z13, list := PySem.W.mg_none_of X G z14, tuple := PySem.W.mg_none_of X G z15, PRIME := ⟨t1, PySem.W.mg_of X G pr⟩, MOST_WORDS := ⟨t2, PySem.W.mg_of X G mw⟩ }
  have Y : Cl K mg CN CH := ⟨⟨⟨pgn, hdn, pon, san⟩, nen, obn, cln, gt, tk⟩, ⟨⟨pgh, hdh, poh, sah⟩, neh, obh, clh, gt, tk⟩, ⟨mkn, inn, kcn, obn⟩, PySem.W.mg_of X G aN, PySem.W.mg_of X G aH, no1, no2, by unfold PySem.W.kitOne; exact if_pos (by simp), nfn⟩
  have F0 := fun_mk (st := s3) l0 c0 k0
  have b0 := F0.binds (ps := ["thing"]) fun _ _ _ _ _ _ us hl => match us, hl with | [_], _ => rfl
  have F1 := fun_mk (st := s4) l1 c1 k1
  have b1 := F1.binds (ps := ["thing"]) fun _ _ _ _ _ _ us hl => match us, hl with | [_], _ => rfl
  have F2 := fun_mk (st := s9) l2 c2 k2
  have b2 := F2.binds (ps := ["words"]) fun _ _ _ _ _ _ us hl => match us, hl with | [_], _ => rfl
  have F3 := fun_mk (st := s10) l3 c3 k3
  have b3 := F3.binds (ps := ["words"]) fun _ _ _ _ _ _ us hl => match us, hl with | [_], _ => rfl
  have F4 := fun_mk (st := s11) l4 c4 k4
  have b4 := F4.binds (ps := ["words"]) fun _ _ _ _ _ _ us hl => match us, hl with | [_], _ => rfl
  have F5 := fun_mk (st := s12) l5 c5 k5
  have b5 := F5.binds (ps := ["block"]) fun _ _ _ _ _ _ us hl => match us, hl with | [_], _ => rfl
  have F6 := fun_mk (st := s15) l6 c6 k6
  have b6 := F6.binds (ps := ["many", "places"]) fun _ _ _ _ _ _ us hl => match us, hl with | [_, _], _ => rfl
  have F7 := fun_mk (st := s18) l7 c7 k7
  have b7 := F7.binds (ps := ["many"]) fun _ _ _ _ _ _ us hl => match us, hl with | [_], _ => rfl
  have F8 := fun_mk (st := s20) l8 c8 k8
  have b8 := F8.binds (ps := ["number"]) fun _ _ _ _ _ _ us hl => match us, hl with | [_], _ => rfl
  have F9 := fun_mk (st := s19) l9 c9 k9
  have b9 := F9.binds (ps := ["inner", "front", "free"]) fun _ _ _ _ _ _ us hl => match us, hl with | [_, _, _], _ => rfl
  have F10 := fun_mk (st := s21) l10 c10 k10
  have b10 := F10.binds (ps := ["inner", "row", "free"]) fun _ _ _ _ _ _ us hl => match us, hl with | [_, _, _], _ => rfl
  have F11 := fun_mk (st := s17) l11 c11 k11
  have b11 := F11.binds (ps := ["inner", "free"]) fun _ _ _ _ _ _ us hl => match us, hl with | [_, _], _ => rfl
  have F12 := fun_mk (st := s23) l12 c12 k12
  have b12 := F12.binds (ps := ["script", "index"]) fun _ _ _ _ _ _ us hl => match us, hl with | [_, _], _ => rfl
  have F13 := fun_mk (st := s24) l13 c13 k13
  have b13 := F13.binds (ps := ["draw", "many"]) fun _ _ _ _ _ _ us hl => match us, hl with | [_, _], _ => rfl
  have F14 := fun_mk (st := s25) l14 c14 k14
  have b14 := F14.binds (ps := ["draw", "items"]) fun _ _ _ _ _ _ us hl => match us, hl with | [_, _], _ => rfl
  have F15 := fun_mk (st := s26) l15 c15 k15
  have b15 := F15.binds (ps := ["one", "other"]) fun _ _ _ _ _ _ us hl => match us, hl with | [_, _], _ => rfl
  have F16 := fun_mk (st := s16) l16 c16 k16
  have b16 := F16.binds (ps := ["many", "places"]) fun _ _ _ _ _ _ us hl => match us, hl with | [_, _], _ => rfl
  have F17 := fun_mk (st := s27) l17 c17 k17
  have b17 := F17.binds (ps := ["script"]) fun _ _ _ _ _ _ us hl => match us, hl with | [_], _ => rfl
  have F18 := fun_mk (st := s13x0) l18 c18 k18
  have b18 := F18.binds (ps := ["self"]) fun _ _ _ _ _ _ us hl => match us, hl with | [_], _ => rfl
  have F19 := fun_mk (st := s13x1) l19 c19 k19
  have b19 := F19.binds (ps := ["self", "other"]) fun _ _ _ _ _ _ us hl => match us, hl with | [_, _], _ => rfl
  have F20 := fun_mk (st := s13x2) l20 c20 k20
  have b20 := F20.binds (ps := ["self", "many", "places"]) fun _ _ _ _ _ _ us hl => match us, hl with | [_, _, _], _ => rfl
  have F21 := fun_mk (st := s14x0) l21 c21 k21
  have b21 := F21.binds (ps := ["self", "one", "other"]) fun _ _ _ _ _ _ us hl => match us, hl with | [_, _, _], _ => rfl
  have F22 := fun_mk (st := s14x1) l22 c22 k22
  have b22 := F22.binds (ps := ["self"]) fun _ _ _ _ _ _ us hl => match us, hl with | [_], _ => rfl
  have F23 := fun_mk (st := s14x3) l23 c23 k23
  have b23 := F23.binds (ps := ["self", "many", "places"]) fun _ _ _ _ _ _ us hl => match us, hl with | [_, _, _], _ => rfl
  refine ⟨PySem.W.fnOf "law" "law" (defArgs s27) (defBody s27) (defScope s27) .none kV17 dc17 pm17 an17 cd17 ct17, fun s v => .of_eq rfl, fun base _ _ => ?_⟩
  have InH : InD l.prog w K mg base 1 "Hidden" CH ["self", "one", "other"] rel_init := ⟨f21, _, d_Hidden_init T Y F21, ⟨mkh, a21, i21, kch⟩, PySem.W.mg_of X G aH, b21⟩
  have C_is_integer : FnD l.prog w K mg base 1 "is_integer" ["thing"] (relP r_is_integer) := ⟨f0, _, d_is_integer T F0, PySem.W.mg_of X G a0, k0, b0⟩
  have C_is_row : FnD l.prog w K mg base 1 "is_row" ["thing"] (relP r_is_row) := ⟨f1, _, d_is_row T F1, PySem.W.mg_of X G a1, k1, b1⟩
  have C_check_words : FnD l.prog w K mg base 2 "check_words" ["words"] (relP r_check_words) := ⟨f2, _, d_check_words T C_is_integer C_is_row F2, PySem.W.mg_of X G a2, k2, b2⟩
  have C_sums_of : FnD l.prog w K mg base 1 "sums_of" ["words"] (relP r_sums_of) := ⟨f3, _, d_sums_of T F3, PySem.W.mg_of X G a3, k3, b3⟩
  have C_block_of : FnD l.prog w K mg base 3 "block_of" ["words"] (relP r_block_of) := ⟨f4, _, d_block_of T C_check_words C_sums_of F4, PySem.W.mg_of X G a4, k4, b4⟩
  have C_words_in : FnD l.prog w K mg base 2 "words_in" ["block"] (relP r_words_in) := ⟨f5, _, d_words_in T C_is_integer C_is_row C_sums_of F5, PySem.W.mg_of X G a5, k5, b5⟩
  have C_check_places : FnD l.prog w K mg base 2 "check_places" ["many", "places"] (relP r_check_places) := ⟨f6, _, d_check_places T C_is_integer C_is_row F6, PySem.W.mg_of X G a6, k6, b6⟩
  have C_rows_of_changes : FnD l.prog w K mg base 1 "rows_of_changes" ["many"] (relP r_rows_of_changes) := ⟨f7, _, d_rows_of_changes T F7, PySem.W.mg_of X G a7, k7, b7⟩
  have C_inverse : FnD l.prog w K mg base 1 "inverse" ["number"] (relP r_inverse) := ⟨f8, _, d_inverse T F8, PySem.W.mg_of X G a8, k8, b8⟩
  have C_closed_row : FnD l.prog w K mg base 2 "closed_row" ["inner", "front", "free"] (relP r_closed_row) := ⟨f9, _, d_closed_row T C_inverse F9, PySem.W.mg_of X G a9, k9, b9⟩
  have C_is_just : FnD l.prog w K mg base 1 "is_just" ["inner", "row", "free"] (relP r_is_just) := ⟨f10, _, d_is_just T F10, PySem.W.mg_of X G a10, k10, b10⟩
  have C_changes_of : FnD l.prog w K mg base 3 "changes_of" ["inner", "free"] (relP r_changes_of) := ⟨f11, _, d_changes_of T C_rows_of_changes C_closed_row C_is_just F11, PySem.W.mg_of X G a11, k11, b11⟩
  have C__law_number : FnD l.prog w K mg base 1 "_law_number" ["script", "index"] (relP (r__law_number K)) := ⟨f12, _, d__law_number T F12, PySem.W.mg_of X G a12, k12, b12⟩
  have C_take : FnD l.prog w K mg base 2 "_law_take" ["draw", "many"] (r_take K) := ⟨f13, _, d_take T C__law_number F13, PySem.W.mg_of X G a13, k13, b13⟩
  have C_pick : FnD l.prog w K mg base 3 "_law_pick" ["draw", "items"] (r_pick K) := ⟨f14, _, d_pick T C_take F14, PySem.W.mg_of X G a14, k14, b14⟩
  have C__law_added : FnD l.prog w K mg base 1 "_law_added" ["one", "other"] (relP r__law_added) := ⟨f15, _, d__law_added T F15, PySem.W.mg_of X G a15, k15, b15⟩
  have C_judge_noticed : FnD l.prog w K mg base 4 "judge_noticed" ["many", "places"] (relP (r_judge_noticed CN CH)) := ⟨f16, _, d_judge_noticed T C_block_of C_check_places C_changes_of Y InH F16, PySem.W.mg_of X G a16, k16, b16⟩
  have Bf : Bo l.prog w K mg base CN CH := ⟨⟨f18, _, (d_Noticed_bool T F18).imp (spG_imp fun ds F W d W' h => ⟨⟨(), h.1.1, h.1.2⟩, h.2⟩), ⟨a18, i18, k18⟩, b18⟩, ⟨f22, _, (d_Hidden_bool T F22).imp (spG_imp fun ds F W d W' h => ⟨⟨h.1.1.choose, h.1.1.choose_spec, h.1.2⟩, h.2⟩), ⟨a22, i22, k22⟩, b22⟩⟩
  have Ms : Me l.prog w K mg base CN CH := ⟨⟨f20, _, d_Noticed_shows T C_judge_noticed Y Bf F20, ⟨a20, i20, k20⟩, b20⟩, ⟨f23, _, d_Hidden_shows T C_words_in C_check_places Y F23, ⟨a23, i23, k23⟩, b23⟩, ⟨f19, _, d_Noticed_eq T Y F19, ⟨a19, i19, k19⟩, b19⟩⟩
  exact d_law T Y Bf Ms InH C_block_of C_words_in C_judge_noticed C__law_added C_take C_pick F17
end B
open PySem PySem.W PyProof.Rows
set_option maxHeartbeats 0 in
theorem PySem.Challenge.cw_storepages_k55_across_blocks_holds : PySem.Challenge.rw_storepages_k55_across_blocks.Holds := by
  w_on; o_law; k_head; (case hw => w_witness2)
  k_fill
  refine L2.walk_of (l := PySem.Challenge.rw_storepages_k55_across_blocks) (n := 63) (k := 13) (x := "script") (CX := fun _ => L2.CX0) (sp := fun w => Z.spG (Z.relP (B.r_law _))) rfl (by decide) rfl ⟨rfl, by decide, by decide⟩ (fun w h Y => PySem.W.kIn_of Y) ?F (fun _ _ a ns hl hO hS => B.law_sp hl hO hS) (fun _ _ _ _ _ h => h)
  case F =>
    intro w mg fa h KX G hmg
    refine' B.all_mk KX G hmg ?aN ?aH ?a0 ?l0 ?c0 ?k0 ?a1 ?l1 ?c1 ?k1 ?a2 ?l2 ?c2 ?k2 ?a3 ?l3 ?c3 ?k3 ?a4 ?l4 ?c4 ?k4 ?a5 ?l5 ?c5 ?k5 ?a6 ?l6 ?c6 ?k6 ?a7 ?l7 ?c7 ?k7 ?a8 ?l8 ?c8 ?k8 ?a9 ?l9 ?c9 ?k9 ?a10 ?l10 ?c10 ?k10 ?a11 ?l11 ?c11 ?k11 ?a12 ?l12 ?c12 ?k12 ?a13 ?l13 ?c13 ?k13 ?a14 ?l14 ?c14 ?k14 ?a15 ?l15 ?c15 ?k15 ?a16 ?l16 ?c16 ?k16 ?a17 ?l17 ?c17 ?k17 ?a18 ?i18 ?l18 ?c18 ?k18 ?a19 ?i19 ?l19 ?c19 ?k19 ?a20 ?i20 ?l20 ?c20 ?k20 ?a21 ?i21 ?l21 ?c21 ?k21 ?a22 ?i22 ?l22 ?c22 ?k22 ?a23 ?i23 ?l23 ?c23 ?k23 ?pgn ?hdn ?pon ?san ?nen ?obn ?cln ?mkn ?kcn ?pgh ?hdh ?poh ?sah ?neh ?obh ?clh ?mkh ?kch ?gt ?inn ?no1 ?no2 ?tk ?nfn ?pr ?mw ?z0 ?z1 ?z2 ?z3 ?z4 ?z5 ?z6 ?z7 ?z8 ?z9 ?z10 ?z11 ?z12 ?z13 ?z14 ?z15
    (case aN => k_is)
    (case aH => k_is)
    (case a0 => k_is)
    (case l0 => k_is)
    (case c0 => k_is)
    (case k0 => k_is)
    (case a1 => k_is)
    (case l1 => k_is)
    (case c1 => k_is)
    (case k1 => k_is)
    (case a2 => k_is)
    (case l2 => k_is)
    (case c2 => k_is)
    (case k2 => k_is)
    (case a3 => k_is)
    (case l3 => k_is)
    (case c3 => k_is)
    (case k3 => k_is)
    (case a4 => k_is)
    (case l4 => k_is)
    (case c4 => k_is)
    (case k4 => k_is)
    (case a5 => k_is)
    (case l5 => k_is)
    (case c5 => k_is)
    (case k5 => k_is)
    (case a6 => k_is)
    (case l6 => k_is)
    (case c6 => k_is)
    (case k6 => k_is)
    (case a7 => k_is)
    (case l7 => k_is)
    (case c7 => k_is)
    (case k7 => k_is)
    (case a8 => k_is)
    (case l8 => k_is)
    (case c8 => k_is)
    (case k8 => k_is)
    (case a9 => k_is)
    (case l9 => k_is)
    (case c9 => k_is)
    (case k9 => k_is)
    (case a10 => k_is)
    (case l10 => k_is)
    (case c10 => k_is)
    (case k10 => k_is)
    (case a11 => k_is)
    (case l11 => k_is)
    (case c11 => k_is)
    (case k11 => k_is)
    (case a12 => k_is)
    (case l12 => k_is)
    (case c12 => k_is)
    (case k12 => k_is)
    (case a13 => k_is)
    (case l13 => k_is)
    (case c13 => k_is)
    (case k13 => k_is)
    (case a14 => k_is)
    (case l14 => k_is)
    (case c14 => k_is)
    (case k14 => k_is)
    (case a15 => k_is)
    (case l15 => k_is)
    (case c15 => k_is)
    (case k15 => k_is)
    (case a16 => k_is)
    (case l16 => k_is)
    (case c16 => k_is)
    (case k16 => k_is)
    (case a17 => k_is)
    (case l17 => k_is)
    (case c17 => k_is)
    (case k17 => k_is)
    (case a18 => k_is)
    (case i18 => k_is)
    (case l18 => k_is)
    (case c18 => k_is)
    (case k18 => k_is)
    (case a19 => k_is)
    (case i19 => k_is)
    (case l19 => k_is)
    (case c19 => k_is)
    (case k19 => k_is)
    (case a20 => k_is)
    (case i20 => k_is)
    (case l20 => k_is)
    (case c20 => k_is)
    (case k20 => k_is)
    (case a21 => k_is)
    (case i21 => k_is)
    (case l21 => k_is)
    (case c21 => k_is)
    (case k21 => k_is)
    (case a22 => k_is)
    (case i22 => k_is)
    (case l22 => k_is)
    (case c22 => k_is)
    (case k22 => k_is)
    (case a23 => k_is)
    (case i23 => k_is)
    (case l23 => k_is)
    (case c23 => k_is)
    (case k23 => k_is)
    (case pgn => k_is)
    (case hdn => k_is)
    (case pon => k_is)
    (case san => k_is)
    (case nen => k_is)
    (case obn => k_is)
    (case cln => k_is)
    (case mkn => k_is)
    (case kcn => k_is)
    (case pgh => k_is)
    (case hdh => k_is)
    (case poh => k_is)
    (case sah => k_is)
    (case neh => k_is)
    (case obh => k_is)
    (case clh => k_is)
    (case mkh => k_is)
    (case kch => k_is)
    (case gt => k_is)
    (case inn => k_is)
    (case no1 => k_is)
    (case no2 => k_is)
    (case tk => k_is)
    (case nfn => k_is)
    (case pr => k_is)
    (case mw => k_is)
    (case z0 => k_is)
    (case z1 => k_is)
    (case z2 => k_is)
    (case z3 => k_is)
    (case z4 => k_is)
    (case z5 => k_is)
    (case z6 => k_is)
    (case z7 => k_is)
    (case z8 => k_is)
    (case z9 => k_is)
    (case z10 => k_is)
    (case z11 => k_is)
    (case z12 => k_is)
    (case z13 => k_is)
    (case z14 => k_is)
    (case z15 => k_is)
#print axioms PySem.Challenge.cw_storepages_k55_across_blocks_holds
