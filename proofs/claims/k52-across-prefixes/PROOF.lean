import PyProof.Rows.All
import Wide.All
import OpenK.AllK
import Wide.FinOn
import HandS.ForMost
import HandS.Star
import HandS.Walk
import HandS.Zip
import HandS.Conv
import HandS.Wide
import KE.DataEq
import HandS.TupAny
import HandS.IsInst
import HandS.Style
import HandS.SortInts
import HandS.SetFor
import KE.GoesEnum
import KE.GoesZip
import KE.GoesMore
import PyProof.InstNe
import KE.OsSort
import HandS.Dict
import HandS.New0
import OpenK.KMake
import HandS.TupMul
import HandS.Strs
import HandS.DictComp
import HandS.Iter
import HandS.Steps
import HandS.SetTxt0
import HandS.More
import HandS.ListItems
import KE.KDictZip
import PySem.Challenge.RW_storepages_k52_across_prefixes
set_option Elab.async false
set_option linter.all false
set_option maxRecDepth 100000
set_option maxHeartbeats 1000000
namespace Z
open PySem PySem.Spec PyProof.Rows L2

/-! ## plain data -/
/-- a list among the objects of the module -/
def SqK (K : PySem.W.Frag) (a : Addr) (xs : List V) : Prop := ∃ (o : Obj) (its : Array Value) (n : Nat), K.lookup a = some o ∧ o.cls = .type "list" ∧ o.dict = none ∧ o.data = .seq its n ∧ its.size ≤ sizeLine ∧ Vals xs its.toList
inductive D where
  | non | bl (b : Bool) | int (i : Int) | str (s : Str)
  | sq (t : Bool) (ds : List D)
  | dk (kvs : List (Key × D))
  | ob (C : Addr) (fs : List (Str × D))
  | ow (a : Addr)
  | fz (K : PySem.W.Frag) (ds : List D)

def sqO (t : Bool) (vs : List V) : HO := match t with
  | true => .tup vs
  | false => .lst vs
def isD : HO → Bool
  | .dK _ => true
  | .dT _ => true
  | _ => false

mutual
/-- the value v stands, in the frozen heap F, for the data d -/
inductive Rep (F : Hp) : V → D → Prop
  | non : Rep F .non .non
  | bl (b : Bool) : Rep F (.bl b) (.bl b)
  | int (i : Int) : Rep F (.int i) (.int i)
  | str (s : Str) : Rep F (.str s) (.str s)
  | sq {a : Addr} {t : Bool} {vs : List V} {ds : List D} : F a = some (sqO t vs) → Reps F vs ds → ds.length ≤ 100000 → Rep F (.ref a) (.sq t ds)
  | dk {a : Addr} {vs : List (Key × V)} {ds : List (Key × D)} : Rd F a (.dK vs) → RepK F vs ds → ds.length ≤ 100000 → Rep F (.ref a) (.dk ds)
  | ow (a : Addr) : Rep F (.ref a) (.ow a)
  | fz {a : Addr} {K : PySem.W.Frag} {vs : List V} {ds : List D} : ((∃ o, F a = some (.frz o (.lst vs))) ∨ SqK K a vs) → Reps F vs ds → ds.length ≤ 100000 → Rep F (.ref a) (.fz K ds)
  | ob {a C dx : Addr} {vs : List (Str × V)} {ds : List (Str × D)} : F a = some (.ins C dx vs) → RepF F vs ds → Rep F (.ref a) (.ob C ds)
inductive Reps (F : Hp) : List V → List D → Prop
  | nil : Reps F [] []
  | cons {v : V} {d : D} {vs : List V} {ds : List D} : Rep F v d → Reps F vs ds → Reps F (v :: vs) (d :: ds)
inductive RepK (F : Hp) : List (Key × V) → List (Key × D) → Prop
  | nil : RepK F [] []
  | cons {k : Key} {v : V} {d : D} {vs : List (Key × V)} {ds : List (Key × D)} : Rep F v d → RepK F vs ds → RepK F ((k, v) :: vs) ((k, d) :: ds)
inductive RepF (F : Hp) : List (Str × V) → List (Str × D) → Prop
  | nil : RepF F [] []
  | cons {k : Str} {v : V} {d : D} {vs : List (Str × V)} {ds : List (Str × D)} : Rep F v d → RepF F vs ds → RepF F ((k, v) :: vs) ((k, d) :: ds)
end

mutual
theorem Rep.mono {F F' : Hp} (e : Same F F') : ∀ {v : V} {d : D}, Rep F v d → Rep F' v d
  | _, _, .non => .non
  | _, _, .bl b => .bl b
  | _, _, .int i => .int i
  | _, _, .str s => .str s
  | _, _, .sq h r z => .sq (e _ _ h) (Reps.mono e r) z
  | _, _, .dk h r z => .dk (h.elim (fun h => .inl (e _ _ h)) fun ⟨o, h⟩ => .inr ⟨o, e _ _ h⟩) (RepK.mono e r) z
  | _, _, .ow a => .ow a
  | _, _, .fz h r z => .fz (h.imp (fun ⟨o, q⟩ => ⟨o, e _ _ q⟩) id) (Reps.mono e r) z
  | _, _, .ob h r => .ob (e _ _ h) (RepF.mono e r)
theorem Reps.mono {F F' : Hp} (e : Same F F') : ∀ {v : List V} {d : List D}, Reps F v d → Reps F' v d
  | _, _, .nil => .nil
  | _, _, .cons h r => .cons (Rep.mono e h) (Reps.mono e r)
theorem RepK.mono {F F' : Hp} (e : Same F F') : ∀ {v : List (Key × V)} {d : List (Key × D)}, RepK F v d → RepK F' v d
  | _, _, .nil => .nil
  | _, _, .cons h r => .cons (Rep.mono e h) (RepK.mono e r)
theorem RepF.mono {F F' : Hp} (e : Same F F') : ∀ {v : List (Str × V)} {d : List (Str × D)}, RepF F v d → RepF F' v d
  | _, _, .nil => .nil
  | _, _, .cons h r => .cons (Rep.mono e h) (RepF.mono e r)
end
theorem Reps.length {F : Hp} : ∀ {vs : List V} {ds : List D}, Reps F vs ds → vs.length = ds.length
  | _, _, .nil => rfl
  | _, _, .cons _ r => congrArg (· + 1) r.length
theorem Reps.get {F : Hp} : ∀ {vs : List V} {ds : List D} {i : Nat} {v : V}, Reps F vs ds → vs[i]? = some v → ∃ d, ds[i]? = some d ∧ Rep F v d
  | _, _, _, _, .nil, h => by simp at h
  | _, _, 0, v, .cons r _, h => by simp at h; subst h; exact ⟨_, rfl, r⟩
  | _, _, i + 1, v, .cons _ r, h => r.get (i := i) (by simpa using h)
theorem Reps.get' {F : Hp} : ∀ {vs : List V} {ds : List D} {i : Nat} {d : D}, Reps F vs ds → ds[i]? = some d → ∃ v, vs[i]? = some v ∧ Rep F v d
  | _, _, _, _, .nil, h => by simp at h
  | _, _, 0, v, .cons r _, h => by simp at h; subst h; exact ⟨_, rfl, r⟩
  | _, _, i + 1, v, .cons _ r, h => r.get' (i := i) (by simpa using h)
theorem Reps.append {F : Hp} : ∀ {vs ws : List V} {ds es : List D}, Reps F vs ds → Reps F ws es → Reps F (vs ++ ws) (ds ++ es)
  | _, _, _, _, .nil, s => s
  | _, _, _, _, .cons r t, s => .cons r (t.append s)
theorem Reps.snoc {F : Hp} {vs : List V} {ds : List D} {v : V} {d : D} (h : Reps F vs ds) (r : Rep F v d) : Reps F (vs ++ [v]) (ds ++ [d]) := h.append (.cons r .nil)
theorem Reps.take {F : Hp} : ∀ {vs : List V} {ds : List D} (n : Nat), Reps F vs ds → Reps F (vs.take n) (ds.take n)
  | _, _, 0, _ => by simp; exact .nil
  | _, _, n + 1, .nil => .nil
  | _, _, n + 1, .cons r t => .cons r (t.take n)
theorem Reps.drop {F : Hp} : ∀ {vs : List V} {ds : List D} (n : Nat), Reps F vs ds → Reps F (vs.drop n) (ds.drop n)
  | _, _, 0, r => r
  | _, _, n + 1, .nil => .nil
  | _, _, n + 1, .cons r t => t.drop n
theorem Reps.reverse {F : Hp} : ∀ {vs : List V} {ds : List D}, Reps F vs ds → Reps F vs.reverse ds.reverse
  | _, _, .nil => .nil
  | _, _, .cons r t => by rw [List.reverse_cons, List.reverse_cons]; exact t.reverse.snoc r
theorem Reps.set {F : Hp} : ∀ {vs : List V} {ds : List D} {v : V} {d : D} (n : Nat), Reps F vs ds → Rep F v d → Reps F (vs.set n v) (ds.set n d)
  | _, _, _, _, _, .nil, _ => .nil
  | _, _, _, _, 0, .cons _ t, r => .cons r t
  | _, _, _, _, n + 1, .cons q t, r => .cons q (t.set n r)
theorem Reps.ints {F : Hp} : ∀ {vs : List V} {ns : List Int}, Reps F vs (ns.map D.int) → vs = ns.map V.int
  | _, [], .nil => rfl
  | _, n :: ns, .cons r t => by cases r; rw [List.map_cons, t.ints]
theorem Reps.of_ints {F : Hp} : ∀ (ns : List Int), Reps F (ns.map V.int) (ns.map D.int)
  | [] => .nil
  | n :: ns => .cons (.int n) (of_ints ns)
theorem Reps.strs {F : Hp} : ∀ {vs : List V} {ns : List Str}, Reps F vs (ns.map D.str) → vs = ns.map V.str
  | _, [], .nil => rfl
  | _, n :: ns, .cons r t => by cases r; rw [List.map_cons, t.strs]
theorem Reps.of_strs {F : Hp} : ∀ (ns : List Str), Reps F (ns.map V.str) (ns.map D.str)
  | [] => .nil
  | n :: ns => .cons (.str n) (of_strs ns)
theorem Reps.bls {F : Hp} : ∀ {vs : List V} {ns : List Bool}, Reps F vs (ns.map D.bl) → vs = ns.map V.bl
  | _, [], .nil => rfl
  | _, n :: ns, .cons r t => by cases r; rw [List.map_cons, t.bls]

/-! ## worlds: F frozen, W owned, H all -/
def Sub (F H : Hp) : Prop := ∀ a o, F a = some o → H a = some o ∨ (isD o = true ∧ ∃ od, H a = some (.frz od o))
structure Wd (F W H : Hp) : Prop where
  f : Sub F H
  w : ∀ a o, W a = some o → H a = some o
  d : ∀ a o, F a = some o → W a = none
structure Go (F W H F' W' H' : Hp) : Prop where
  st : Wd F' W' H'
  ex : Same F F'
  keep : ∀ a o, H a = some o → W a = none → H' a = some o
  nF : ∀ a o, F a = none → F' a = some o → H a = none ∨ ∃ u, W a = some u
  nW : ∀ a o, W' a = some o → (∃ u, W a = some u) ∨ H a = none
theorem Sub.some {F H : Hp} (s : Sub F H) {a : Addr} {o : HO} (h : F a = some o) : ∃ u, H a = some u := by
  rcases s a o h with q | ⟨_, od, q⟩
  · exact ⟨_, q⟩
  · exact ⟨_, q⟩
theorem opt_cases {α : Type} (x : Option α) : x = none ∨ ∃ o, x = some o := by
  cases x with
  | none => exact .inl rfl
  | some o => exact .inr ⟨o, rfl⟩
theorem Go.refl {F W H : Hp} (w : Wd F W H) : Go F W H F W H := ⟨w, Same.refl F, fun _ _ h _ => h, (fun a o h q => absurd (h.symm.trans q) (by simp)), fun _ o h => Or.inl ⟨o, h⟩⟩
theorem Go.trans {F W H F1 W1 H1 F2 W2 H2 : Hp} (a : Go F W H F1 W1 H1) (b : Go F1 W1 H1 F2 W2 H2) : Go F W H F2 W2 H2 := by
  have keepW : ∀ x o, H x = some o → W x = none → W1 x = none := fun x o h hw => by
    rcases opt_cases (W1 x) with q | ⟨u, q⟩
    · exact q
    · rcases a.nW x u q with ⟨z, hz⟩ | z
      · rw [hw] at hz; cases hz
      · rw [h] at z; cases z
  refine ⟨b.st, a.ex.trans b.ex, fun x o h hw => b.keep x o (a.keep x o h hw) (keepW x o h hw), fun x o h q => ?_, fun x o q => ?_⟩
  · rcases opt_cases (F1 x) with q1 | ⟨u, q1⟩
    · rcases b.nF x o q1 q with z | ⟨u, z⟩
      · rcases opt_cases (H x) with h0 | ⟨u, h0⟩
        · exact .inl h0
        · rcases opt_cases (W x) with w0 | w0
          · rw [a.keep x u h0 w0] at z; cases z
          · exact .inr w0
      · rcases a.nW x u z with z | z
        · exact .inr z
        · exact .inl z
    · exact a.nF x u h q1
  · rcases b.nW x o q with ⟨u, z⟩ | z
    · exact a.nW x u z
    · rcases opt_cases (H x) with h0 | ⟨u, h0⟩
      · exact .inr h0
      · rcases opt_cases (W x) with w0 | w0
        · rw [a.keep x u h0 w0] at z; cases z
        · exact .inl w0
theorem Wd.mono {F F1 W H : Hp} (w : Wd F1 W H) (e : Same F F1) : Wd F W H := ⟨fun a o h => w.f a o (e a o h), w.w, fun a o h => w.d a o (e a o h)⟩
/-- over a greater frozen heap -/
theorem Go.up {F W H F' W' H' F1 : Hp} (g : Go F W H F' W' H') (e : Same F F1) (w : Wd F1 W H) : ∃ F1', Same F' F1' ∧ Go F1 W H F1' W' H' := by
  refine ⟨fun a => match F1 a with | some o => some o | none => F' a, fun a o h => ?_, ⟨fun a o h => ?_, g.st.w, fun a o h => ?_⟩, fun a o h => ?_, g.keep, fun a o h q => ?_, g.nW⟩
  · show (match F1 a with | some o => some o | none => F' a) = some o
    rcases opt_cases (F1 a) with q | ⟨u, q⟩
    · rw [q]; exact h
    · rw [q]
      rcases opt_cases (F a) with z | ⟨z, hz⟩
      · rcases g.nF a o z h with y | ⟨y, hy⟩
        · obtain ⟨x, hx⟩ := w.f.some q
          rw [y] at hx; cases hx
        · rw [w.d a u q] at hy; cases hy
      · have e1 := e a z hz
        have e2 := g.ex a z hz
        rw [q] at e1; rw [h] at e2
        cases e1; cases e2; rfl
  · have h : (match F1 a with | some o => some o | none => F' a) = some o := h
    rcases opt_cases (F1 a) with q | ⟨u, q⟩
    · rw [q] at h; exact g.st.f a o h
    · rw [q] at h; cases h
      rcases w.f a o q with z | ⟨z, od, y⟩
      · exact .inl (g.keep a o z (w.d a o q))
      · exact .inr ⟨z, od, g.keep a _ y (w.d a o q)⟩
  · have h : (match F1 a with | some o => some o | none => F' a) = some o := h
    rcases opt_cases (F1 a) with q | ⟨u, q⟩
    · rw [q] at h; exact g.st.d a o h
    · rcases opt_cases (W' a) with z | ⟨z, hz⟩
      · exact z
      · rcases g.nW a z hz with ⟨y, hy⟩ | y
        · rw [w.d a u q] at hy; cases hy
        · obtain ⟨x, hx⟩ := w.f.some q
          rw [y] at hx; cases hx
  · show (match F1 a with | some o => some o | none => F' a) = some o
    rw [h]
  · have q : (match F1 a with | some o => some o | none => F' a) = some o := q
    rw [h] at q
    refine g.nF a o ?_ q
    rcases opt_cases (F a) with z | ⟨z, hz⟩
    · exact z
    · rw [e a z hz] at h; cases h
/-- a new frozen object -/
theorem Go.new {F W H : Hp} (w : Wd F W H) {p : Addr} {o : HO} (hp : H p = none) : Go F W H (upd F p o) W (upd H p o) := by
  have fp : F p = none := by
    rcases opt_cases (F p) with z | ⟨z, hz⟩
    · exact z
    · obtain ⟨u, hu⟩ := w.f.some hz
      rw [hp] at hu; cases hu
  have wp : W p = none := by
    rcases opt_cases (W p) with z | ⟨z, hz⟩
    · exact z
    · rw [w.w p z hz] at hp; cases hp
  refine ⟨⟨fun a u h => ?_, fun a u h => ?_, fun a u h => ?_⟩, fun a u h => ?_, fun a u h _ => ?_, fun a u h q => ?_, fun a u h => .inl ⟨u, h⟩⟩
  · by_cases e : a = p
    · subst e; rw [upd_same] at h ⊢; exact .inl h
    · rw [upd_ne e] at h ⊢; exact w.f a u h
  · rw [upd_ne (ne_of_none (w.w a u h) hp)]; exact w.w a u h
  · by_cases e : a = p
    · subst e; exact wp
    · rw [upd_ne e] at h; exact w.d a u h
  · rw [upd_ne (ne_of_none h fp)]; exact h
  · rw [upd_ne (ne_of_none h hp)]; exact h
  · by_cases e : a = p
    · subst e; exact .inl hp
    · rw [upd_ne e] at q; rw [h] at q; cases q
/-- what changed nothing -/
theorem Go.frame {F W H F' H' : Hp} (g : Go F (fun _ => none) H F' (fun _ => none) H') (w : Wd F W H) : Go F W H F' W H' := by
  refine ⟨⟨g.st.f, fun a o h => g.keep a o (w.w a o h) rfl, fun a o h => ?_⟩, g.ex, fun a o h _ => g.keep a o h rfl, fun a o h q => ?_, fun a o h => .inl ⟨o, h⟩⟩
  · rcases opt_cases (F a) with z | ⟨z, hz⟩
    · rcases g.nF a o z h with y | ⟨_, y⟩
      · rcases opt_cases (W a) with x | ⟨x, hx⟩
        · exact x
        · rw [w.w a x hx] at y; cases y
      · cases y
    · exact w.d a z hz
  · rcases g.nF a o h q with y | ⟨_, y⟩
    · exact .inl y
    · cases y

/-! ## the greatest readings -/
def tmE (X : Cx) (e : Expr) : TE := fun σ H Q => ∀ pins s, Inv X pins σ H s → wpAny (model X.prog X.w) X.A (eval e X.env) (EP X pins σ Q) X.xe s
theorem pe_tm {X : Cx} {e : Expr} : PE X e (tmE X e) := ⟨fun pins s _ _ _ I h => h pins s I⟩
theorem tm_of {X : Cx} {e : Expr} {t : TE} (h : PE X e t) {σ : L2.St} {H : Hp} {Q : VK} (q : t σ H Q) : tmE X e σ H Q := fun pins s I => h.run pins s σ H Q I q
def tmT (X : Cx) (e : Expr) : TT := fun σ H Q => ∀ pins s, Inv X pins σ H s → wpAny (model X.prog X.w) X.A (isTrue e X.env (eval e X.env)) (TP X pins σ Q) X.xe s
theorem pt_tm {X : Cx} {e : Expr} : PT X e (tmT X e) := ⟨fun pins s _ _ _ I h => h pins s I⟩
theorem tmT_of {X : Cx} {e : Expr} {t : TT} (h : PT X e t) {σ : L2.St} {H : Hp} {Q : Bool → Hp → Prop} (q : t σ H Q) : tmT X e σ H Q := fun pins s I => h.run pins s σ H Q I q
def tmW (X : Cx) (e : Expr) : TT := fun σ H Q => ∀ whole pins s, Inv X pins σ H s → wpAny (model X.prog X.w) X.A (isTrue e X.env whole) (TP X pins σ Q) X.xe s
theorem pw_tm {X : Cx} {e : Expr} : PW X e (tmW X e) := ⟨fun whole pins s _ _ _ I h => h whole pins s I⟩
theorem tmW_of {X : Cx} {e : Expr} {t : TT} (h : PW X e t) {σ : L2.St} {H : Hp} {Q : Bool → Hp → Prop} (q : t σ H Q) : tmW X e σ H Q := fun whole pins s I => h.run whole pins s σ H Q I q
def tmA (X : Cx) (es : List Expr) : TA := fun σ H Q => ∀ pos pins s, Inv X pins σ H s → wpAny (model X.prog X.w) X.A (spliced (backTo pos (starEach es X.env))) (AP X pins σ Q) X.xe s
theorem pa_tm {X : Cx} {es : List Expr} : PA X es (tmA X es) := ⟨fun pos pins s _ _ _ I h => h pos pins s I⟩
theorem tmA_of {X : Cx} {es : List Expr} {t : TA} (h : PA X es t) {σ : L2.St} {H : Hp} {Q : List V → Hp → Prop} (q : t σ H Q) : tmA X es σ H Q := fun pos pins s I => h.run pos pins s σ H Q I q
def tmS (X : Cx) (st : Stmt) : TS := fun D σ H => ∀ pins s, Inv X pins σ H s → wpAny (model X.prog X.w) X.A (exec st X.env) (SP X pins D) X.xe s
theorem ps_tm {X : Cx} {st : Stmt} : PS X st (tmS X st) := ⟨fun pins s _ _ _ I h => h pins s I⟩
theorem tmS_of {X : Cx} {st : Stmt} {t : TS} (h : PS X st t) {σ : L2.St} {H : Hp} {D : Ends} (q : t D σ H) : tmS X st D σ H := fun pins s I => h.run pins s σ H D I q
def tmB (X : Cx) (st : List Stmt) : TS := fun D σ H => ∀ pins s, Inv X pins σ H s → wpAny (model X.prog X.w) X.A (execs st X.env) (SP X pins D) X.xe s
theorem pss_tm {X : Cx} {st : List Stmt} : PSs X st (tmB X st) := ⟨fun pins s _ _ _ I h => h pins s I⟩
theorem tmB_of {X : Cx} {st : List Stmt} {t : TS} (h : PSs X st t) {σ : L2.St} {H : Hp} {D : Ends} (q : t D σ H) : tmB X st D σ H := fun pins s I => h.run pins s σ H D I q
def tmI (X : Cx) (tg e : Expr) : TI := fun σ H R => ∀ pins s, Inv X pins σ H s → wpAny (model X.prog X.w) X.A (eval e X.env) (fun v s1 => wpAny (model X.prog X.w) X.A (pyIter v) (PIE X pins σ tg R) X.xe s1) X.xe s
theorem pi_tm {X : Cx} {tg e : Expr} : PI X tg e (tmI X tg e) := ⟨fun pins s _ _ _ I h => h pins s I⟩
theorem tmI_of {X : Cx} {tg e : Expr} {t : TI} (h : PI X tg e t) {σ : L2.St} {H : Hp} {R : It → Hp → Prop} (q : t σ H R) : tmI X tg e σ H R := fun pins s I => h.run pins s σ H R I q

/-! ## what an expression makes -/
def EvS (X : Cx) (e : Expr) (σ : L2.St) (F W : Hp) (d : D) (W' : Hp) : Prop :=
  ∀ H, Wd F W H → ∀ Q : VK, (∀ v F' H', Go F W H F' W' H' → Rep F' v d → Q v H') → tmE X e σ H Q
def EvT (X : Cx) (e : Expr) (σ : L2.St) (F W : Hp) (b : Bool) (W' : Hp) : Prop :=
  ∀ H, Wd F W H → ∀ Q : Bool → Hp → Prop, (∀ F' H', Go F W H F' W' H' → Q b H') → tmT X e σ H Q
def EvW (X : Cx) (e : Expr) (σ : L2.St) (F W : Hp) (b : Bool) (W' : Hp) : Prop :=
  ∀ H, Wd F W H → ∀ Q : Bool → Hp → Prop, (∀ F' H', Go F W H F' W' H' → Q b H') → tmW X e σ H Q
def EvA (X : Cx) (es : List Expr) (σ : L2.St) (F W : Hp) (ds : List D) (W' : Hp) : Prop :=
  ∀ H, Wd F W H → ∀ Q : List V → Hp → Prop, (∀ vs F' H', Go F W H F' W' H' → Reps F' vs ds → Q vs H') → tmA X es σ H Q
section
variable {X : Cx} {e a b : Expr} {es : List Expr} {σ : L2.St} {F F1 W W1 W2 W3 : Hp} {d d1 d2 : D} {ds : List D} {k : Bool} {pos : Pos}
theorem EvS.mono (h : EvS X e σ F W d W1) (ex : Same F F1) : EvS X e σ F1 W d W1 := fun H w Q q =>
  h H (w.mono ex) Q fun v F' H' g r => by
    obtain ⟨F2, e2, g2⟩ := g.up ex w
    exact q v F2 H' g2 (r.mono e2)
theorem EvT.mono (h : EvT X e σ F W k W1) (ex : Same F F1) : EvT X e σ F1 W k W1 := fun H w Q q =>
  h H (w.mono ex) Q fun F' H' g => by
    obtain ⟨F2, e2, g2⟩ := g.up ex w
    exact q F2 H' g2
theorem EvW.mono (h : EvW X e σ F W k W1) (ex : Same F F1) : EvW X e σ F1 W k W1 := fun H w Q q =>
  h H (w.mono ex) Q fun F' H' g => by
    obtain ⟨F2, e2, g2⟩ := g.up ex w
    exact q F2 H' g2
theorem EvA.mono (h : EvA X es σ F W ds W1) (ex : Same F F1) : EvA X es σ F1 W ds W1 := fun H w Q q =>
  h H (w.mono ex) Q fun v F' H' g r => by
    obtain ⟨F2, e2, g2⟩ := g.up ex w
    exact q v F2 H' g2 (r.mono e2)
/-- one more step behind what was done -/
theorem EvS.then {H F0 W0 H0 : Hp} (h : EvS X e σ F W d W1) (g0 : Go F0 W0 H0 F W H) {Q : VK} (q : ∀ v F' H', Go F W H F' W1 H' → Go F0 W0 H0 F' W1 H' → Rep F' v d → Q v H') : tmE X e σ H Q :=
  h H g0.st Q fun v F' H' g r => q v F' H' g (g0.trans g) r
theorem ev_is (h : EvS X e σ F W d W1) (q : d = d1) : EvS X e σ F W d1 W1 := by rw [← q]; exact h
theorem et_is {k' : Bool} (h : EvT X e σ F W k W1) (q : k = k') : EvT X e σ F W k' W1 := by rw [← q]; exact h
theorem ea_is {ds' : List D} (h : EvA X es σ F W ds W1) (q : ds = ds') : EvA X es σ F W ds' W1 := by rw [← q]; exact h

/-! ### names, constants -/
theorem ev_var {i : Nat} {x : Str} {v : V} (hs : σ[i]? = some (some v)) (r : Rep F v d) (hN : X.N[i]? = some x := by rfl) (hv : Vis X.env.scope x := by first | exact Or.inl rfl | exact Or.inr (Or.inl rfl) | exact Or.inr (Or.inr rfl))
    (hd : (x == ("__debug__" : Str)) = false := by decide) (hcd : (x == ("__classdict__" : Str)) = false := by decide) : EvS X (.Name x pos) σ F W d W := fun H w Q q =>
  tm_of (pe_var hN hv hd hcd) ⟨v, hs, q v F H (Go.refl w) r⟩
theorem ev_int {i j} : EvS X (.Constant (.int i) j pos) σ F W (.int i) W := fun H w Q q => tm_of pe_int (q _ F H (Go.refl w) (.int i))
theorem ev_bl {i j} : EvS X (.Constant (.bool i) j pos) σ F W (.bl i) W := fun H w Q q => tm_of pe_bl (q _ F H (Go.refl w) (.bl i))
theorem ev_non {j} : EvS X (.Constant .none j pos) σ F W .non W := fun H w Q q => tm_of pe_non (q _ F H (Go.refl w) .non)
theorem ev_str {s j} : EvS X (.Constant (.str s) j pos) σ F W (.str s) W := fun H w Q q => tm_of pe_str (q _ F H (Go.refl w) (.str s))
theorem ev_gint {x : Str} {i : Int} {t : Tok} (hg : Gl X x) (hm : X.mg x = some (.int i t)) (hd : (x == ("__debug__" : Str)) = false := by decide) : EvS X (.Name x pos) σ F W (.int i) W := fun H w Q q =>
  tm_of (pe_glob (v := .int i) hg hm ⟨t, rfl⟩ hd) (q _ F H (Go.refl w) (.int i))
theorem ev_gstr {x : Str} {i : Str} {t : Tok} (hg : Gl X x) (hm : X.mg x = some (.str i t)) (hd : (x == ("__debug__" : Str)) = false := by decide) : EvS X (.Name x pos) σ F W (.str i) W := fun H w Q q =>
  tm_of (pe_glob (v := .str i) hg hm ⟨t, rfl⟩ hd) (q _ F H (Go.refl w) (.str i))

/-! ### operators -/
/-- what a two-place operation on values makes -/
def RR (r : R2) (F W : Hp) (d1 d2 d : D) : Prop := ∀ v1 v2 F1 H1, Same F F1 → Rep F1 v1 d1 → Rep F1 v2 d2 → Wd F1 W H1 → ∀ Q : VK, (∀ v F' H', Go F1 W H1 F' W H' → Rep F' v d → Q v H') → r v1 v2 H1 Q
theorem ev_op {op : Operator} {r : R2} (ho : OpR X (binaryOp op) r) (ha : EvS X a σ F W d1 W1) (hb : EvS X b σ F W1 d2 W2) (hr : RR r F W2 d1 d2 d) : EvS X (.BinOp a op b pos) σ F W d W2 := fun H w Q q =>
  tm_of (pe_op ho pe_tm pe_tm) (ha H w _ fun v1 F1 H1 g1 r1 => (hb.mono g1.ex).then g1 fun v2 F2 H2 g2 g02 r2 =>
    hr v1 v2 F2 H2 g02.ex (r1.mono g2.ex) r2 g2.st Q fun v F' H' g r => q v F' H' (g02.trans g) r)
theorem rr_I0 {g : Int → Int → V} {i j : Int} {dd : D} (hd : ∀ F, Rep F (g i j) dd) : RR (rI0 g) F W (.int i) (.int j) dd := fun v1 v2 F1 H1 _ r1 r2 w Q q => by
  cases r1; cases r2
  exact ⟨i, j, rfl, rfl, q _ F1 H1 (Go.refl w) (hd F1)⟩
theorem rr_I {C : Int → Int → Prop} {g : Int → Int → V} {i j : Int} {dd : D} (hc : C i j) (hd : ∀ F, Rep F (g i j) dd) : RR (rI C g) F W (.int i) (.int j) dd := fun v1 v2 F1 H1 _ r1 r2 w Q q => by
  cases r1; cases r2
  exact ⟨i, j, rfl, rfl, hc, q _ F1 H1 (Go.refl w) (hd F1)⟩
variable {i j : Int}
theorem ev_add (ha : EvS X a σ F W (.int i) W1) (hb : EvS X b σ F W1 (.int j) W2) : EvS X (.BinOp a .Add b pos) σ F W (.int (i + j)) W2 := ev_op op_add ha hb (rr_I0 fun _ => .int _)
theorem ev_sub (ha : EvS X a σ F W (.int i) W1) (hb : EvS X b σ F W1 (.int j) W2) : EvS X (.BinOp a .Sub b pos) σ F W (.int (i - j)) W2 := ev_op op_sub ha hb (rr_I0 fun _ => .int _)
theorem ev_mul (ha : EvS X a σ F W (.int i) W1) (hb : EvS X b σ F W1 (.int j) W2) (hc : CMul i j) : EvS X (.BinOp a .Mult b pos) σ F W (.int (i * j)) W2 := ev_op op_mul ha hb (rr_I hc fun _ => .int _)
theorem ev_mod (ha : EvS X a σ F W (.int i) W1) (hb : EvS X b σ F W1 (.int j) W2) (hc : 0 < j) : EvS X (.BinOp a .Mod b pos) σ F W (.int (i % j)) W2 := ev_op op_mod ha hb (rr_I hc fun _ => .int _)
theorem ev_div (ha : EvS X a σ F W (.int i) W1) (hb : EvS X b σ F W1 (.int j) W2) (hc : CDiv i j) : EvS X (.BinOp a .FloorDiv b pos) σ F W (.int (i / j)) W2 := ev_op op_fdiv ha hb (rr_I hc fun _ => .int _)
theorem ev_pow (ha : EvS X a σ F W (.int i) W1) (hb : EvS X b σ F W1 (.int j) W2) (hc : CPow i j) : EvS X (.BinOp a .Pow b pos) σ F W (.int (i ^ j.toNat)) W2 := ev_op op_pow ha hb (rr_I hc fun _ => .int _)
theorem ev_neg (ha : EvS X a σ F W (.int i) W1) : EvS X (.UnaryOp .USub a pos) σ F W (.int (-i)) W1 := fun H w Q q =>
  tm_of (pe_un un_neg pe_tm) (ha H w _ fun v F1 H1 g r => by cases r; exact ⟨i, rfl, q _ F1 H1 g (.int _)⟩)
/-- lists put together -/
theorem Rep.sq_inv {v : V} {t : Bool} {ds : List D} (r : Rep F v (.sq t ds)) : ∃ a vs, v = .ref a ∧ F a = some (sqO t vs) ∧ Reps F vs ds ∧ ds.length ≤ 100000 := by
  cases r with
  | sq h r z => exact ⟨_, _, rfl, h, r, z⟩
theorem Rep.lst_inv {v : V} {ds : List D} (r : Rep F v (.sq false ds)) : ∃ a vs, v = .ref a ∧ F a = some (.lst vs) ∧ Reps F vs ds ∧ ds.length ≤ 100000 := r.sq_inv
theorem Rep.tup_inv {v : V} {ds : List D} (r : Rep F v (.sq true ds)) : ∃ a vs, v = .ref a ∧ F a = some (.tup vs) ∧ Reps F vs ds ∧ ds.length ≤ 100000 := r.sq_inv
theorem Wd.lst {H : Hp} {p : Addr} {vs : List V} (w : Wd F W H) (h : F p = some (.lst vs)) : H p = some (.lst vs) := by
  rcases w.f p _ h with q | ⟨q, _⟩
  · exact q
  · cases q
theorem Wd.tup {H : Hp} {p : Addr} {vs : List V} (w : Wd F W H) (h : F p = some (.tup vs)) : H p = some (.tup vs) := by
  rcases w.f p _ h with q | ⟨q, _⟩
  · exact q
  · cases q
theorem Wd.ins {H : Hp} {p C dx : Addr} {fs : List (Str × V)} (w : Wd F W H) (h : F p = some (.ins C dx fs)) : H p = some (.ins C dx fs) := by
  rcases w.f p _ h with q | ⟨q, _⟩
  · exact q
  · cases q
theorem Wd.rd {H : Hp} {p : Addr} {o : HO} (w : Wd F W H) (h : F p = some o) : Rd H p o := by
  rcases w.f p _ h with q | ⟨_, q⟩
  · exact .inl q
  · exact .inr q
theorem Wd.rdK {H : Hp} {p : Addr} {vs : List (Key × V)} (w : Wd F W H) (h : Rd F p (.dK vs)) : Rd H p (.dK vs) := by
  rcases h with h | ⟨o, h⟩
  · exact w.rd h
  · rcases w.f p _ h with q | ⟨q, _⟩
    · exact .inr ⟨o, q⟩
    · cases q
theorem Wd.fzl {K : PySem.W.Frag} {H : Hp} {p : Addr} {o : Obj} {vs : List V} (w : Wd F W H) (h : F p = some (.frz o (.lst vs))) : SqL K H p vs := by
  rcases w.f p _ h with q | ⟨q, _⟩
  · exact .inl (.inr ⟨o, q⟩)
  · cases q
/-- the sequence at an address, as the rules read it -/
theorem Wd.seq {K : PySem.W.Frag} {H : Hp} {p : Addr} {t : Bool} {vs : List V} (w : Wd F W H) (h : F p = some (sqO t vs)) : SqL K H p vs ∨ SqT K H p vs := by
  cases t with
  | false => exact .inl (SqL.of (w.lst h))
  | true => exact .inr (SqT.of (w.tup h))
theorem sz_ok {n : Nat} (h : n ≤ 100000) : n ≤ sizeLine := Nat.le_trans h (by decide)
theorem sz_lt {n : Nat} (h : n ≤ 100000) : n < sizeLine := Nat.lt_of_le_of_lt h (by decide)
theorem Go.rep_new {H : Hp} {p : Addr} {t : Bool} {vs : List V} {ds : List D} (w : Wd F W H) (hp : H p = none) (r : Reps F vs ds) (z : ds.length ≤ 100000) : Rep (upd F p (sqO t vs)) (.ref p) (.sq t ds) :=
  .sq upd_same (r.mono (Go.new w hp).ex) z
theorem ev_cat {xs ys : List D} (ha : EvS X a σ F W (.sq false xs) W1) (hb : EvS X b σ F W1 (.sq false ys) W2) (hz : xs.length + ys.length ≤ 100000) : EvS X (.BinOp a .Add b pos) σ F W (.sq false (xs ++ ys)) W2 :=
  ev_op op_cat ha hb fun v1 v2 F1 H1 _ r1 r2 w Q q => by
    obtain ⟨l, vs, rfl, h1, s1, z1⟩ := r1.lst_inv
    obtain ⟨l2, ws, rfl, h2, s2, z2⟩ := r2.lst_inv
    exact ⟨l, l2, vs, ws, rfl, rfl, w.lst h1, w.lst h2, by rw [s1.length, s2.length]; exact sz_ok hz, fun p hp => q _ _ _ (Go.new w hp) (Go.rep_new (t := false) w hp (s1.append s2) (by rw [List.length_append]; exact hz))⟩
theorem ev_catT {xs ys : List D} (ha : EvS X a σ F W (.sq true xs) W1) (hb : EvS X b σ F W1 (.sq true ys) W2) (hne : xs ≠ []) (hz : xs.length + ys.length ≤ 100000) : EvS X (.BinOp a .Add b pos) σ F W (.sq true (xs ++ ys)) W2 :=
  ev_op op_catT ha hb fun v1 v2 F1 H1 _ r1 r2 w Q q => by
    obtain ⟨l, vs, rfl, h1, s1, z1⟩ := id r1.tup_inv
    obtain ⟨l2, ws, rfl, h2, s2, z2⟩ := r2.tup_inv
    refine ⟨l, l2, vs, ws, rfl, rfl, SqT.of (w.tup h1), SqT.of (w.tup h2), fun e => hne ?_, by rw [s1.length, s2.length]; exact sz_ok hz, fun e => ?_, fun _ p hp => q _ _ _ (Go.new w hp) (Go.rep_new (t := true) w hp (s1.append s2) (by rw [List.length_append]; exact hz))⟩
    · subst e; cases s1; rfl
    · subst e; cases s2
      exact q _ _ _ (Go.refl w) (by rw [List.append_nil]; exact r1)
theorem Reps.rep (k : Nat) {vs : List V} {ds : List D} (r : Reps F vs ds) : Reps F (List.replicate k vs).flatten (List.replicate k ds).flatten := by
  induction k with
  | zero => exact .nil
  | succ k ih => rw [List.replicate_succ, List.replicate_succ, List.flatten_cons, List.flatten_cons]; exact r.append ih
theorem ev_rep {xs : List D} {k : Int} (ha : EvS X a σ F W (.sq false xs) W1) (hb : EvS X b σ F W1 (.int k) W2) (hk : k ≤ 100000) (hz : xs.length * k.toNat ≤ 100000) (h0 : -100000 ≤ k) : EvS X (.BinOp a .Mult b pos) σ F W (.sq false (List.replicate k.toNat xs).flatten) W2 :=
  ev_op op_rep ha hb fun v1 v2 F1 H1 _ r1 r2 w Q q => by
    obtain ⟨l, vs, rfl, h1, s1, z1⟩ := r1.lst_inv
    cases r2
    refine ⟨l, k, vs, rfl, rfl, w.lst h1, by omega, by omega, by rw [s1.length]; exact sz_ok hz, fun p hp => q _ _ _ (Go.new w hp) (Go.rep_new (t := false) w hp (s1.rep k.toNat) ?_)⟩
    have := (s1.rep k.toNat).length
    rw [← this]
    simp only [List.length_flatten, List.map_replicate, List.sum_replicate_nat, s1.length]
    rw [Nat.mul_comm]; exact hz
end
end Z
set_option Elab.async false
set_option linter.all false
set_option maxRecDepth 100000
set_option maxHeartbeats 1000000
namespace Z
open PySem PySem.Spec PyProof.Rows L2
section
variable {X : Cx} {e a b c : Expr} {es : List Expr} {σ : L2.St} {F F1 W W1 W2 W3 : Hp} {d d1 d2 d3 : D} {ds : List D} {k k1 k2 : Bool} {pos : Pos} {i j : Int}
/-! ### tests -/
theorem EvT.then {H F0 W0 H0 : Hp} (h : EvT X e σ F W k W1) (g0 : Go F0 W0 H0 F W H) {Q : Bool → Hp → Prop} (q : ∀ F' H', Go F W H F' W1 H' → Go F0 W0 H0 F' W1 H' → Q k H') : tmT X e σ H Q :=
  h H g0.st Q fun F' H' g => q F' H' g (g0.trans g)
theorem et_val (h : EvS X e σ F W (.bl k) W1) (he : ∀ whole, isTrue e X.env whole = (do let v ← whole; standAt e.pos; holding [v] (truthy v)) := by intro _; rfl) : EvT X e σ F W k W1 := fun H w Q q =>
  tmT_of (pt_val pe_tm he) (h H w _ fun v F' H' g r => by cases r; exact ⟨k, rfl, q F' H' g⟩)
theorem ev_cmp {op : CmpOp} {r : R2} (ho : OpR X (compareOp op) r) (ha : EvS X a σ F W d1 W1) (hb : EvS X b σ F W1 d2 W2) (hr : RR r F W2 d1 d2 (.bl k)) (hm : behindInMarks op b = false) : EvS X (.Compare a [op] [b] pos) σ F W (.bl k) W2 := fun H w Q q =>
  tm_of (pe_cmpR ho pe_tm pe_tm hm) (ha H w _ fun v1 F1 H1 g1 r1 => (hb.mono g1.ex).then g1 fun v2 F2 H2 g2 g02 r2 =>
    hr v1 v2 F2 H2 g02.ex (r1.mono g2.ex) r2 g2.st Q fun v F' H' g r => q v F' H' (g02.trans g) r)
theorem et_cmp {op : CmpOp} {r : R2} (ho : OpR X (compareOp op) r) (ha : EvS X a σ F W d1 W1) (hb : EvS X b σ F W1 d2 W2) (hr : RR r F W2 d1 d2 (.bl k)) (hm : behindInMarks op b = false) : EvT X (.Compare a [op] [b] pos) σ F W k W2 := fun H w Q q =>
  tmT_of (pt_cmpR ho pe_tm pe_tm hm) (ha H w _ fun v1 F1 H1 g1 r1 => (hb.mono g1.ex).then g1 fun v2 F2 H2 g2 g02 r2 =>
    hr v1 v2 F2 H2 g02.ex (r1.mono g2.ex) r2 g2.st _ fun v F' H' g r => by cases r; exact ⟨k, rfl, q F' H' (g02.trans g)⟩)
/-- a comparison's rule for what the two sides are -/
structure CmpR (X : Cx) (op : CmpOp) (F W : Hp) (d1 d2 : D) (k : Bool) : Prop where
  ex : ∃ r, OpR X (compareOp op) r ∧ RR r F W d1 d2 (.bl k)
theorem ev_cm {op : CmpOp} (ha : EvS X a σ F W d1 W1) (hb : EvS X b σ F W1 d2 W2) (hr : CmpR X op F W2 d1 d2 k) (hm : behindInMarks op b = false := by first | exact nomark _ | rfl) : EvS X (.Compare a [op] [b] pos) σ F W (.bl k) W2 :=
  let ⟨_, ho, h⟩ := hr.ex; ev_cmp ho ha hb h hm
theorem et_cm {op : CmpOp} (ha : EvS X a σ F W d1 W1) (hb : EvS X b σ F W1 d2 W2) (hr : CmpR X op F W2 d1 d2 k) (hm : behindInMarks op b = false := by first | exact nomark _ | rfl) : EvT X (.Compare a [op] [b] pos) σ F W k W2 :=
  let ⟨_, ho, h⟩ := hr.ex; et_cmp ho ha hb h hm
theorem CmpR.is (h : CmpR X op F W d1 d2 k) (e : k = k1) : CmpR X op F W d1 d2 k1 := by rw [← e]; exact h
theorem cm_lt : CmpR X .Lt F W (.int i) (.int j) (decide (i < j)) := ⟨_, op_lt, rr_I0 fun _ => .bl _⟩
theorem cm_le : CmpR X .LtE F W (.int i) (.int j) (decide (i ≤ j)) := ⟨_, op_le, rr_I0 fun _ => .bl _⟩
theorem cm_gt : CmpR X .Gt F W (.int i) (.int j) (decide (j < i)) := ⟨_, op_gt, rr_I0 fun _ => .bl _⟩
theorem cm_ge : CmpR X .GtE F W (.int i) (.int j) (decide (j ≤ i)) := ⟨_, op_ge, rr_I0 fun _ => .bl _⟩
theorem cm_isN (hr : ∀ F v, Rep F v d1 → decide (v = .non) = k) : CmpR X .Is F W d1 .non k := ⟨_, op_isN, fun v1 v2 F1 H1 _ r1 r2 w Q q => by
  cases r2; exact ⟨rfl, by rw [hr F1 v1 r1]; exact q _ F1 H1 (Go.refl w) (.bl _)⟩⟩
theorem cm_notN (hr : ∀ F v, Rep F v d1 → decide (v = .non) = k) : CmpR X .IsNot F W d1 .non (!k) := ⟨_, op_notN, fun v1 v2 F1 H1 _ r1 r2 w Q q => by
  cases r2; exact ⟨rfl, by rw [hr F1 v1 r1]; exact q _ F1 H1 (Go.refl w) (.bl _)⟩⟩
def D.isN : D → Bool
  | .non => true
  | _ => false
theorem rep_isN {F : Hp} {v : V} {d : D} (r : Rep F v d) : decide (v = .non) = d.isN := by cases r <;> rfl
theorem cm_is : CmpR X .Is F W d1 .non d1.isN := cm_isN fun _ _ r => rep_isN r
theorem cm_isnot : CmpR X .IsNot F W d1 .non (!d1.isN) := cm_notN fun _ _ r => rep_isN r

/-! ### == of plain data -/
end
mutual
def D.pd : D → PyData
  | .non => .none
  | .bl b => .bool b
  | .int i => .int i
  | .str s => .str s
  | .sq false ds => .list (D.pds ds)
  | .sq true ds => .tuple (D.pds ds)
  | .dk _ => .none
  | .ob _ _ => .none
  | .ow _ => .none
  | .fz _ ds => .list (D.pds ds)
def D.pds : List D → List PyData
  | [] => []
  | d :: ds => D.pd d :: D.pds ds
end
mutual
/-- neither a dict nor an instance lies within -/
def D.pl : D → Bool
  | .non => true
  | .bl _ => true
  | .int _ => true
  | .str _ => true
  | .sq _ ds => D.pls ds
  | .dk _ => false
  | .ob _ _ => false
  | .ow _ => false
  | .fz _ _ => false
def D.pls : List D → Bool
  | [] => true
  | d :: ds => D.pl d && D.pls ds
end
mutual
theorem D.pl_plain : ∀ d : D, d.pl = true → d.pd.plain = true
  | .non, _ => rfl
  | .bl _, _ => rfl
  | .int _, _ => rfl
  | .str _, _ => rfl
  | .sq false ds, h => by simp only [D.pd, PyData.plain]; exact D.pls_plain ds (by simpa [D.pl] using h)
  | .sq true ds, h => by simp only [D.pd, PyData.plain]; exact D.pls_plain ds (by simpa [D.pl] using h)
  | .dk _, h => by simp [D.pl] at h
  | .ob _ _, h => by simp [D.pl] at h
  | .ow _, h => by simp [D.pl] at h
  | .fz _ ds, h => by simp [D.pl] at h
theorem D.pls_plain : ∀ ds : List D, D.pls ds = true → PyData.plainAll (D.pds ds) = true
  | [], _ => rfl
  | d :: ds, h => by
    simp only [D.pls, Bool.and_eq_true] at h
    simp only [D.pds, PyData.plainAll, Bool.and_eq_true]
    exact ⟨D.pl_plain d h.1, D.pls_plain ds h.2⟩
end
mutual
theorem Rep.dp {K : PySem.W.Frag} {F W H : Hp} (w : Wd F W H) : ∀ {v : V} {d : D}, Rep F v d → d.pl = true → Dp K H v d.pd
  | _, _, .non, h => .non
  | _, _, .bl b, h => .bl b
  | _, _, .int i, h => .int i
  | _, _, .str s, h => .str s
  | _, _, .sq (t := false) (ds := ds) q r z, h => .lst (SqL.of (w.lst q)) (Reps.dp w r h)
  | _, _, .sq (t := true) (ds := ds) q r z, h => .tup (SqT.of (w.tup q)) (Reps.dp w r h)
  | _, _, .dk _ _ _, h => by simp [D.pl] at h
  | _, _, .ob _ _, h => by simp [D.pl] at h
  | _, _, .ow _, h => by simp [D.pl] at h
  | _, _, .fz (ds := ds) q r z, h => by simp [D.pl] at h
theorem Reps.dp {K : PySem.W.Frag} {F W H : Hp} (w : Wd F W H) : ∀ {v : List V} {d : List D}, Reps F v d → D.pls d = true → DpAll K H v (D.pds d)
  | _, _, .nil, _ => .nil
  | _, _, .cons (d := d) (ds := ds) r t, h => by
    simp only [D.pls, Bool.and_eq_true] at h
    exact .cons (Rep.dp w r h.1) (Reps.dp w t h.2)
end
def D.eqv (a b : D) : Bool := PyData.eqv a.pd b.pd
def D.dep (a : D) : Nat := a.pd.depth
/-- == tells this data apart as Lean's = does -/
structure Lw {α : Type} [DecidableEq α] (f : α → D) (n : Nat) : Prop where
  pl : ∀ x, (f x).pl = true
  dep : ∀ x, (f x).dep ≤ n
  eq : ∀ x y, (f x).eqv (f y) = decide (x = y)
theorem D.pds_map (ds : List D) : D.pds ds = ds.map D.pd := by
  induction ds with
  | nil => rfl
  | cons d ds ih => simp only [D.pds, List.map_cons, ih]
theorem D.pls_all (ds : List D) : D.pls ds = ds.all D.pl := by
  induction ds with
  | nil => rfl
  | cons d ds ih => simp only [D.pls, List.all_cons, ih]
theorem depthAll_le {n : Nat} : ∀ (ds : List PyData), (∀ d ∈ ds, d.depth ≤ n) → PyData.depthAll ds ≤ n
  | [], _ => Nat.zero_le _
  | d :: ds, h => by
    simp only [PyData.depthAll]
    exact Nat.max_le.mpr ⟨h d List.mem_cons_self, depthAll_le ds fun x hx => h x (List.mem_cons_of_mem _ hx)⟩
section
variable {α β γ : Type} [DecidableEq α] [DecidableEq β] [DecidableEq γ] {f : α → D} {g : β → D} {h : γ → D} {n m l : Nat}
theorem Lw.mono (a : Lw f n) (h : n ≤ m) : Lw f m := ⟨a.pl, fun x => Nat.le_trans (a.dep x) h, a.eq⟩
theorem lw_int : Lw D.int 0 := ⟨fun _ => rfl, fun _ => Nat.le_refl _, fun x y => by
  show (x == y) = _
  rw [Bool.eq_iff_iff]; simp⟩
theorem lw_bl : Lw D.bl 0 := ⟨fun _ => rfl, fun _ => Nat.le_refl _, fun x y => by
  show (x == y) = _
  rw [Bool.eq_iff_iff]; simp⟩
theorem lw_str : Lw D.str 0 := ⟨fun _ => rfl, fun _ => Nat.le_refl _, fun x y => by
  show (x == y) = _
  rw [Bool.eq_iff_iff]; simp⟩
/-- rows -/
def eR (t : Bool) (f : α → D) (xs : List α) : D := .sq t (xs.map f)
theorem Lw.eqvAll (a : Lw f n) : ∀ xs ys : List α, PyData.eqvAll (D.pds (xs.map f)) (D.pds (ys.map f)) = decide (xs = ys)
  | [], [] => by simp [D.pds, PyData.eqvAll]
  | [], y :: ys => by simp [D.pds, PyData.eqvAll]
  | x :: xs, [] => by simp [D.pds, PyData.eqvAll]
  | x :: xs, y :: ys => by
    have e1 : PyData.eqv (f x).pd (f y).pd = decide (x = y) := a.eq x y
    simp only [List.map_cons, D.pds, PyData.eqvAll, a.eqvAll xs ys, e1]
    rw [Bool.eq_iff_iff]; simp
theorem Lw.row {t : Bool} (a : Lw f n) : Lw (eR t f) (n + 1) := by
  refine ⟨fun xs => ?_, fun xs => ?_, fun xs ys => ?_⟩
  · show D.pls (xs.map f) = true
    rw [D.pls_all]
    simp only [List.all_map, List.all_eq_true]
    exact fun x _ => a.pl x
  · have : PyData.depthAll (D.pds (xs.map f)) ≤ n := depthAll_le _ fun d hd => by
      rw [D.pds_map, List.map_map] at hd
      obtain ⟨x, _, rfl⟩ := List.mem_map.mp hd
      exact a.dep x
    cases t <;> (show PyData.depthAll (D.pds (xs.map f)) + 1 ≤ n + 1; omega)
  · cases t <;> exact a.eqvAll xs ys
/-- pairs, triples as tuples -/
def eP (f : α → D) (g : β → D) (p : α × β) : D := .sq true [f p.1, g p.2]
def eP3 (f : α → D) (g : β → D) (h : γ → D) (p : α × β × γ) : D := .sq true [f p.1, g p.2.1, h p.2.2]
theorem Lw.pair (a : Lw f n) (b : Lw g n) : Lw (eP f g) (n + 1) := by
  refine ⟨fun p => ?_, fun p => ?_, fun p q => ?_⟩
  · show ((f p.1).pl && ((g p.2).pl && true)) = true
    rw [a.pl, b.pl]; rfl
  · have h1 := a.dep p.1
    have h2 := b.dep p.2
    show max (f p.1).dep (max (g p.2).dep 0) + 1 ≤ n + 1
    omega
  · show ((f p.1).eqv (f q.1) && ((g p.2).eqv (g q.2) && true)) = _
    rw [a.eq, b.eq, Bool.eq_iff_iff]
    simp [Prod.ext_iff]
theorem Lw.triple (a : Lw f n) (b : Lw g n) (c : Lw h n) : Lw (eP3 f g h) (n + 1) := by
  refine ⟨fun p => ?_, fun p => ?_, fun p q => ?_⟩
  · show ((f p.1).pl && ((g p.2.1).pl && ((h p.2.2).pl && true))) = true
    rw [a.pl, b.pl, c.pl]; rfl
  · have h1 := a.dep p.1
    have h2 := b.dep p.2.1
    have h3 := c.dep p.2.2
    show max (f p.1).dep (max (g p.2.1).dep (max (h p.2.2).dep 0)) + 1 ≤ n + 1
    omega
  · show ((f p.1).eqv (f q.1) && ((g p.2.1).eqv (g q.2.1) && ((h p.2.2).eqv (h q.2.2) && true))) = _
    rw [a.eq, b.eq, c.eq, Bool.eq_iff_iff]
    simp [Prod.ext_iff]
/-- None, or something else -/
def eO (f : α → D) : Option α → D
  | none => .non
  | some x => f x
theorem Lw.opt (a : Lw f n) (hn : ∀ x, (f x).eqv .non = false) (hn' : ∀ x, D.non.eqv (f x) = false) : Lw (eO f) n := by
  refine ⟨fun x => ?_, fun x => ?_, fun x y => ?_⟩
  · cases x with
    | none => rfl
    | some x => exact a.pl x
  · cases x with
    | none => exact Nat.zero_le _
    | some x => exact a.dep x
  · cases x with
    | none =>
      cases y with
      | none => show D.eqv .non .non = _; simp [D.eqv, D.pd, PyData.eqv]
      | some y => show D.non.eqv (f y) = _; rw [hn']; simp
    | some x =>
      cases y with
      | none => show (f x).eqv .non = _; rw [hn]; simp
      | some y => show (f x).eqv (f y) = _; rw [a.eq]; simp
end
section
variable {X : Cx} {e a b c : Expr} {σ : L2.St} {F F1 W W1 W2 W3 : Hp} {d d1 d2 d3 : D} {ds : List D} {q q1 q2 : Bool} {pos : Pos} {i j : Int} {k : Nat}
def rPlain (K : PySem.W.Frag) (neg : Bool) : R2 := fun x y H Q => ∃ d e, Dp K H x d ∧ Dp K H y e ∧ d.plain = true ∧ e.plain = true ∧ d.depth ≤ 60 ∧ Q (.bl (if neg then !PyData.eqv d e else PyData.eqv d e)) H
theorem op_eqP (hr : Room k X.A) : OpR X (compareOp .Eq) (rPlain X.K false) := by
  intro pins s σ H x y v u Q I rx ry h
  obtain ⟨d, e, hd, he, sd, se, hz, q⟩ := h
  obtain ⟨as, r1⟩ := Dp.reads I d x v hd rx
  obtain ⟨bs, r2⟩ := Dp.reads I e y u he ry
  have := hr.units
  exact SeqAt.eq_plain r1 r2 sd se (by omega) ⟨.bl _, H, I, rfl, q⟩
theorem op_neP (hr : Room k X.A) : OpR X (compareOp .NotEq) (rPlain X.K true) := by
  intro pins s σ H x y v u Q I rx ry h
  obtain ⟨d, e, hd, he, sd, se, hz, q⟩ := h
  obtain ⟨as, r1⟩ := Dp.reads I d x v hd rx
  obtain ⟨bs, r2⟩ := Dp.reads I e y u he ry
  have := hr.units
  exact SeqAt.ne_plain r1 r2 sd se (by omega) ⟨.bl _, H, I, rfl, q⟩
def rInP (K : PySem.W.Frag) (neg : Bool) : R2 := fun x y H Q => ∃ d es, Dp K H x d ∧ (Dp K H y (.list es) ∨ Dp K H y (.tuple es)) ∧ d.plain = true ∧ PyData.plainAll es = true ∧ d.depth ≤ 60 ∧
  Q (.bl (if neg then !es.any (fun y => PyData.eqv y d) else es.any fun y => PyData.eqv y d)) H
theorem op_inP (hr : Room k X.A) : OpR X (compareOp .In) (rInP X.K false) := by
  intro pins s σ H x y v u Q I rx ry h
  obtain ⟨d, es, hd, he, sd, se, hz, q⟩ := h
  obtain ⟨as, r1⟩ := Dp.reads I d x v hd rx
  have := hr.units
  rcases he with he | he
  · obtain ⟨bs, r2⟩ := Dp.reads I _ y u he ry
    exact SeqAt.in_list_data r2 r1 se sd (by omega) ⟨.bl _, H, I, rfl, q⟩
  · obtain ⟨bs, r2⟩ := Dp.reads I _ y u he ry
    exact SeqAt.in_tuple_data r2 r1 se sd (by omega) ⟨.bl _, H, I, rfl, q⟩
theorem op_niP (hr : Room k X.A) : OpR X (compareOp .NotIn) (rInP X.K true) := by
  intro pins s σ H x y v u Q I rx ry h
  obtain ⟨d, es, hd, he, sd, se, hz, q⟩ := h
  obtain ⟨as, r1⟩ := Dp.reads I d x v hd rx
  have := hr.units
  rcases he with he | he
  · obtain ⟨bs, r2⟩ := Dp.reads I _ y u he ry
    exact SeqAt.notIn_list_data r2 r1 se sd (by omega) ⟨.bl _, H, I, rfl, q⟩
  · obtain ⟨bs, r2⟩ := Dp.reads I _ y u he ry
    exact SeqAt.notIn_tuple_data r2 r1 se sd (by omega) ⟨.bl _, H, I, rfl, q⟩
theorem cm_eqD (hr : Room k X.A) (h1 : d1.pl = true) (h2 : d2.pl = true) (hz : d1.dep ≤ 60) : CmpR X .Eq F W d1 d2 (d1.eqv d2) :=
  ⟨_, op_eqP hr, fun v1 v2 F1 H1 _ r1 r2 w Q k => ⟨_, _, r1.dp w h1, r2.dp w h2, D.pl_plain _ h1, D.pl_plain _ h2, hz, k _ F1 H1 (Go.refl w) (.bl _)⟩⟩
theorem cm_neD (hr : Room k X.A) (h1 : d1.pl = true) (h2 : d2.pl = true) (hz : d1.dep ≤ 60) : CmpR X .NotEq F W d1 d2 (!d1.eqv d2) :=
  ⟨_, op_neP hr, fun v1 v2 F1 H1 _ r1 r2 w Q k => ⟨_, _, r1.dp w h1, r2.dp w h2, D.pl_plain _ h1, D.pl_plain _ h2, hz, k _ F1 H1 (Go.refl w) (.bl _)⟩⟩
theorem cm_inD {t : Bool} (hr : Room k X.A) (h1 : d1.pl = true) (h2 : D.pls ds = true) (hz : d1.dep ≤ 60) : CmpR X .In F W d1 (.sq t ds) (ds.any fun y => y.eqv d1) :=
  ⟨_, op_inP hr, fun v1 v2 F1 H1 _ r1 r2 w Q k => ⟨d1.pd, D.pds ds, r1.dp w h1, by
    cases t with
    | false => exact .inl (r2.dp w h2)
    | true => exact .inr (r2.dp w h2), D.pl_plain _ h1, D.pls_plain _ h2, hz, by
      have e : ((D.pds ds).any fun y => PyData.eqv y d1.pd) = ds.any fun y => y.eqv d1 := by rw [D.pds_map, List.any_map]; rfl
      rw [e]
      exact k _ F1 H1 (Go.refl w) (.bl _)⟩⟩
theorem cm_niD {t : Bool} (hr : Room k X.A) (h1 : d1.pl = true) (h2 : D.pls ds = true) (hz : d1.dep ≤ 60) : CmpR X .NotIn F W d1 (.sq t ds) (!ds.any fun y => y.eqv d1) :=
  ⟨_, op_niP hr, fun v1 v2 F1 H1 _ r1 r2 w Q k => ⟨d1.pd, D.pds ds, r1.dp w h1, by
    cases t with
    | false => exact .inl (r2.dp w h2)
    | true => exact .inr (r2.dp w h2), D.pl_plain _ h1, D.pls_plain _ h2, hz, by
      have e : ((D.pds ds).any fun y => PyData.eqv y d1.pd) = ds.any fun y => y.eqv d1 := by rw [D.pds_map, List.any_map]; rfl
      rw [e]
      exact k _ F1 H1 (Go.refl w) (.bl _)⟩⟩
section
variable {α : Type} [DecidableEq α] {f : α → D} {n : Nat} {x y : α} {xs : List α} {t : Bool}
theorem cm_eq (hr : Room k X.A) (l : Lw f n) (hn : n ≤ 60 := by decide) : CmpR X .Eq F W (f x) (f y) (decide (x = y)) := (cm_eqD hr (l.pl x) (l.pl y) (Nat.le_trans (l.dep x) hn)).is (l.eq x y)
theorem cm_ne (hr : Room k X.A) (l : Lw f n) (hn : n ≤ 60 := by decide) : CmpR X .NotEq F W (f x) (f y) (!decide (x = y)) := (cm_neD hr (l.pl x) (l.pl y) (Nat.le_trans (l.dep x) hn)).is (congrArg not (l.eq x y))
theorem Lw.any (l : Lw f n) : ((xs.map f).any fun y => y.eqv (f x)) = decide (x ∈ xs) := by
  rw [List.any_map, Bool.eq_iff_iff, List.any_eq_true, decide_eq_true_iff]
  constructor
  · rintro ⟨y, hy, e⟩
    have e : (f y).eqv (f x) = true := e
    rw [l.eq, decide_eq_true_iff] at e
    exact e ▸ hy
  · exact fun h => ⟨x, h, by show (f x).eqv (f x) = true; rw [l.eq]; simp⟩
theorem Lw.pls (l : Lw f n) : D.pls (xs.map f) = true := by
  rw [D.pls_all]
  simp only [List.all_map, List.all_eq_true]
  exact fun x _ => l.pl x
theorem cm_in (hr : Room k X.A) (l : Lw f n) (hn : n ≤ 60 := by decide) : CmpR X .In F W (f x) (eR t f xs) (decide (x ∈ xs)) := (cm_inD hr (l.pl x) l.pls (Nat.le_trans (l.dep x) hn)).is l.any
theorem cm_ni (hr : Room k X.A) (l : Lw f n) (hn : n ≤ 60 := by decide) : CmpR X .NotIn F W (f x) (eR t f xs) (!decide (x ∈ xs)) := (cm_niD hr (l.pl x) l.pls (Nat.le_trans (l.dep x) hn)).is (congrArg not l.any)
end

/-! ### and, or, not, if -/
theorem et_not (ha : EvT X a σ F W q W1) : EvT X (.UnaryOp .Not a pos) σ F W (!q) W1 := fun H w Q k => tmT_of (pt_not pt_tm) (ha H w _ fun F' H' g => k F' H' g)
theorem ew_and1 (ha : EvT X a σ F W q W1) : EvW X (.BoolOp .And [a] pos) σ F W q W1 := fun H w Q k => tmW_of (pw_and1 pt_tm) (ha H w _ fun F' H' g => k F' H' g)
theorem ew_or1 (ha : EvT X a σ F W q W1) : EvW X (.BoolOp .Or [a] pos) σ F W q W1 := fun H w Q k => tmW_of (pw_or1 pt_tm) (ha H w _ fun F' H' g => k F' H' g)
theorem ew_and {es : List Expr} (ha : EvT X a σ F W q1 W1) (hb : q1 = true → EvW X (.BoolOp .And (b :: es) pos) σ F W1 q2 W1) : EvW X (.BoolOp .And (a :: b :: es) pos) σ F W (q1 && q2) W1 := fun H w Q k =>
  tmW_of (pw_and pt_tm pw_tm) (ha H w _ fun F' H' g => by
    cases q1 with
    | true => rw [if_pos rfl]; exact ((hb rfl).mono g.ex) H' g.st _ fun F2 H2 g2 => k F2 H2 (g.trans g2)
    | false => rw [if_neg Bool.false_ne_true]; exact k F' H' g)
theorem ew_or {es : List Expr} (ha : EvT X a σ F W q1 W1) (hb : q1 = false → EvW X (.BoolOp .Or (b :: es) pos) σ F W1 q2 W1) : EvW X (.BoolOp .Or (a :: b :: es) pos) σ F W (q1 || q2) W1 := fun H w Q k =>
  tmW_of (pw_or pt_tm pw_tm) (ha H w _ fun F' H' g => by
    cases q1 with
    | true => rw [if_pos rfl]; exact k F' H' g
    | false => rw [if_neg Bool.false_ne_true]; exact ((hb rfl).mono g.ex) H' g.st _ fun F2 H2 g2 => k F2 H2 (g.trans g2))
theorem et_w (h : EvW X e σ F W q W1) : EvT X e σ F W q W1 := fun H w Q k => tmT_of pw_tm.pt (h H w Q k)
theorem ev_not (ha : EvS X a σ F W (.bl q) W1) : EvS X (.UnaryOp .Not a pos) σ F W (.bl (!q)) W1 := fun H w Q k => tm_of (pe_not pe_tm) (ha H w _ fun v F' H' g r => by
  cases r; exact ⟨q, rfl, k _ F' H' g (.bl _)⟩)
theorem ev_bop1 {op : BoolOp} (ha : EvS X a σ F W d W1) : EvS X (.BoolOp op [a] pos) σ F W d W1 := fun H w Q k => tm_of (pe_one pe_tm) (ha H w Q k)
theorem ev_and {es : List Expr} (ha : EvS X a σ F W (.bl q1) W1) (hb : q1 = true → EvS X (.BoolOp .And (b :: es) pos) σ F W1 (.bl q2) W1) : EvS X (.BoolOp .And (a :: b :: es) pos) σ F W (.bl (q1 && q2)) W1 := fun H w Q k =>
  tm_of (pe_and pe_tm pe_tm) (ha H w _ fun v F' H' g r => by
    cases r
    refine ⟨q1, rfl, ?_⟩
    cases q1 with
    | true => rw [if_pos rfl]; exact ((hb rfl).mono g.ex).then g fun v F2 H2 _ g2 r2 => k v F2 H2 g2 r2
    | false => rw [if_neg Bool.false_ne_true]; exact k _ F' H' g (.bl _))
theorem ev_or {es : List Expr} (ha : EvS X a σ F W (.bl q1) W1) (hb : q1 = false → EvS X (.BoolOp .Or (b :: es) pos) σ F W1 (.bl q2) W1) : EvS X (.BoolOp .Or (a :: b :: es) pos) σ F W (.bl (q1 || q2)) W1 := fun H w Q k =>
  tm_of (pe_or pe_tm pe_tm) (ha H w _ fun v F' H' g r => by
    cases r
    refine ⟨q1, rfl, ?_⟩
    cases q1 with
    | true => rw [if_pos rfl]; exact k _ F' H' g (.bl _)
    | false => rw [if_neg Bool.false_ne_true]; exact ((hb rfl).mono g.ex).then g fun v F2 H2 _ g2 r2 => k v F2 H2 g2 r2)
/-- both ways of one sort -/
theorem ev_if {α : Type} {f : α → D} {x y : α} (hc : EvT X c σ F W q W1) (ha : q = true → EvS X a σ F W1 (f x) W1) (hb : q = false → EvS X b σ F W1 (f y) W1) : EvS X (.IfExp c a b pos) σ F W (f (if q = true then x else y)) W1 := fun H w Q k =>
  tm_of (pe_ifExp pt_tm pe_tm pe_tm) (hc H w _ fun F' H' g => by
    cases q with
    | true => rw [if_pos rfl]; exact ((ha rfl).mono g.ex).then g fun v F2 H2 _ g2 r2 => k v F2 H2 g2 (by rw [if_pos rfl]; exact r2)
    | false => rw [if_neg Bool.false_ne_true]; exact ((hb rfl).mono g.ex).then g fun v F2 H2 _ g2 r2 => k v F2 H2 g2 (by rw [if_neg Bool.false_ne_true]; exact r2))
/-- with draws within: the world behind is told by the way -/
theorem ev_ifW {Wa Wb : Hp} {α : Type} {f : α → D} {x y : α} (hc : EvT X c σ F W q W1) (ha : q = true → EvS X a σ F W1 (f x) Wa) (hb : q = false → EvS X b σ F W1 (f y) Wb) : EvS X (.IfExp c a b pos) σ F W (f (if q = true then x else y)) (if q = true then Wa else Wb) := fun H w Q k =>
  tm_of (pe_ifExp pt_tm pe_tm pe_tm) (hc H w _ fun F' H' g => by
    cases q with
    | true => rw [if_pos rfl]; exact ((ha rfl).mono g.ex).then g fun v F2 H2 _ g2 r2 => k v F2 H2 g2 (by rw [if_pos rfl]; exact r2)
    | false => rw [if_neg Bool.false_ne_true]; exact ((hb rfl).mono g.ex).then g fun v F2 H2 _ g2 r2 => k v F2 H2 g2 (by rw [if_neg Bool.false_ne_true]; exact r2))
end
end Z
set_option Elab.async false
set_option linter.all false
set_option maxRecDepth 100000
set_option maxHeartbeats 1000000
namespace Z
open PySem PySem.Spec PyProof.Rows L2
section
variable {X : Cx} {e a b c : Expr} {es : List Expr} {σ : L2.St} {F F1 W W1 W2 W3 : Hp} {d d1 d2 d3 : D} {ds : List D} {q q1 q2 : Bool} {pos p : Pos} {i j : Int} {k : Nat}
/-! ### arguments, displays -/
theorem ea_nil : EvA X [] σ F W [] W := fun H w Q q => tmA_of pa_nil (q _ F H (Go.refl w) .nil)
theorem ea_cons (ha : EvS X e σ F W d W1) (hr : EvA X es σ F W1 ds W2) (hs : starEach (e :: es) X.env = (false, eval e X.env) :: starEach es X.env := by rfl) : EvA X (e :: es) σ F W (d :: ds) W2 := fun H w Q q =>
  tmA_of (pa_cons pe_tm pa_tm hs) (ha H w _ fun v F1 H1 g r => hr.mono g.ex H1 g.st _ fun vs F2 H2 g2 r2 => q (v :: vs) F2 H2 (g.trans g2) (.cons (r.mono g2.ex) r2))
theorem ea_star {t : Bool} {d1 : List D} (ha : EvS X e σ F W (.sq t d1) W1) (hr : EvA X es σ F W1 ds W2) (hs : starEach (.Starred e p :: es) X.env = (true, eval e X.env) :: starEach es X.env := by rfl) : EvA X (.Starred e p :: es) σ F W (d1 ++ ds) W2 := fun H w Q q =>
  tmA_of (StX.pa_star pe_tm pa_tm hs) (ha H w _ fun v F1 H1 g r => by
    obtain ⟨l, vs, rfl, h1, s1, z1⟩ := r.sq_inv
    refine ⟨l, vs, rfl, (g.st.seq h1).symm, hr.mono g.ex H1 g.st _ fun ws F2 H2 g2 r2 => q (vs ++ ws) F2 H2 (g.trans g2) ((s1.mono g2.ex).append r2)⟩)
theorem ev_tup {x1} (h : EvA X es σ F W ds W1) (hz : ds.length ≤ 100000) : EvS X (.Tuple es x1 pos) σ F W (.sq true ds) W1 := fun H w Q q =>
  tm_of (pe_tup pa_tm) (h H w _ fun vs F1 H1 g r => ⟨by rw [r.length]; exact sz_ok hz, fun p hp => q _ _ _ (g.trans (Go.new g.st hp)) (Go.rep_new (t := true) g.st hp r hz)⟩)
theorem ev_lst (h : EvA X es σ F W ds W1) (hz : ds.length ≤ 100000) : EvS X (.List es pos) σ F W (.sq false ds) W1 := fun H w Q q =>
  tm_of (pe_lst pa_tm) (h H w _ fun vs F1 H1 g r => ⟨by rw [r.length]; exact sz_ok hz, fun p hp => q _ _ _ (g.trans (Go.new g.st hp)) (Go.rep_new (t := false) g.st hp r hz)⟩)

/-! ### built-ins called -/
structure CalR (X : Cx) (f : Value) (F W : Hp) (ds : List D) (d : D) : Prop where
  ex : ∃ r, CallR X f r ∧ ∀ vs F1 H1, Same F F1 → Reps F1 vs ds → Wd F1 W H1 → ∀ Q : VK, (∀ v F' H', Go F1 W H1 F' W H' → Rep F' v d → Q v H') → r vs H1 Q
theorem ev_blt {x : Str} {id : String} (hm : X.mg x = none) (hc : CalR X (.builtin id) F W1 ds d) (ha : EvA X (e :: es) σ F W ds W1) (hv : bootBuiltins x = some (.builtin id)) (hg : Gl X x := by rfl) (hn : x ≠ "__name__" := by decide) (hdb : (x == ("__debug__" : Str)) = false := by decide)
    (he : starEach (e :: es) X.env = (false, eval e X.env) :: starEach es X.env := by rfl) (hpl : (backTo pos (starEach es X.env)).any (·.1) = false := by rfl) : EvS X (.Call (.Name x p) (e :: es) [] pos) σ F W d W1 := fun H w Q q => by
  obtain ⟨r, hr, h⟩ := hc.ex
  exact tm_of (pe_callB hr hg hm hv pa_tm hn hdb he hpl) (ha H w _ fun vs F1 H1 g s => h vs F1 H1 g.ex s g.st Q fun v F' H' g2 r2 => q v F' H' (g.trans g2) r2)
theorem ev_bty {x : Str} {T : String} (hm : X.mg x = none) (hc : CalR X (.type T) F W1 ds d) (ha : EvA X (e :: es) σ F W ds W1) (hv : bootBuiltins x = some (.type T)) (hg : Gl X x := by rfl) (hn : x ≠ "__name__" := by decide) (hdb : (x == ("__debug__" : Str)) = false := by decide)
    (he : starEach (e :: es) X.env = (false, eval e X.env) :: starEach es X.env := by rfl) (hpl : (backTo pos (starEach es X.env)).any (·.1) = false := by rfl) : EvS X (.Call (.Name x p) (e :: es) [] pos) σ F W d W1 := fun H w Q q => by
  obtain ⟨r, hr, h⟩ := hc.ex
  exact tm_of (pe_callTy hr hg hm hv pa_tm hn hdb he hpl) (ha H w _ fun vs F1 H1 g s => h vs F1 H1 g.ex s g.st Q fun v F' H' g2 r2 => q v F' H' (g.trans g2) r2)
theorem CalR.is {f : Value} (h : CalR X f F W ds d) (e : d = d1) : CalR X f F W ds d1 := by rw [← e]; exact h
theorem cl_len {t : Bool} {xs : List D} : CalR X (.builtin "len") F W [.sq t xs] (.int xs.length) := ⟨_, call_len_seq, fun vs F1 H1 _ r w Q q => by
  cases r with
  | cons r t =>
    cases t
    obtain ⟨l, us, rfl, h1, s1, z1⟩ := r.sq_inv
    exact ⟨l, us, rfl, w.seq h1, by rw [s1.length]; exact q _ F1 H1 (Go.refl w) (.int _)⟩⟩
theorem cl_lenS {s : Str} (hs : s.length ≤ sizeLine) : CalR X (.builtin "len") F W [.str s] (.int s.length) := ⟨_, call_len_str, fun vs F1 H1 _ r w Q q => by
  cases r with
  | cons r t =>
    cases t
    cases r
    exact ⟨s, rfl, hs, q _ F1 H1 (Go.refl w) (.int _)⟩⟩
theorem cl_int : CalR X (.type "int") F W [.int i] (.int i) := ⟨_, call_int1, fun vs F1 H1 _ r w Q q => by
  cases r with
  | cons r t =>
    cases t
    cases r
    exact .inl ⟨i, rfl, q _ F1 H1 (Go.refl w) (.int _)⟩⟩
theorem cl_bool : CalR X (.type "bool") F W [.bl q] (.bl q) := ⟨_, call_bool1, fun vs F1 H1 _ r w Q k => by
  cases r with
  | cons r t =>
    cases t
    cases r
    exact .inr ⟨q, rfl, k _ F1 H1 (Go.refl w) (.bl _)⟩⟩
theorem cl_list {t : Bool} {xs : List D} : CalR X (.type "list") F W [.sq t xs] (.sq false xs) := ⟨_, call_list_of, fun vs F1 H1 _ r w Q q => by
  cases r with
  | cons r t =>
    cases t
    obtain ⟨l, us, rfl, h1, s1, z1⟩ := r.sq_inv
    exact ⟨l, us, rfl, w.seq h1, fun p hp => q _ _ _ (Go.new w hp) (Go.rep_new (t := false) w hp s1 z1)⟩⟩
theorem cl_tuple {t : Bool} {xs : List D} : CalR X (.type "tuple") F W [.sq t xs] (.sq true xs) := ⟨_, call_tuple_of, fun vs F1 H1 _ r w Q q => by
  cases r with
  | cons r t =>
    cases t
    cases t with
    | false =>
      obtain ⟨l, us, rfl, h1, s1, z1⟩ := r.lst_inv
      exact ⟨l, us, rfl, .inl ⟨SqL.of (w.lst h1), fun p hp => q _ _ _ (Go.new w hp) (Go.rep_new (t := true) w hp s1 z1)⟩⟩
    | true =>
      obtain ⟨l, us, rfl, h1, s1, z1⟩ := id r.tup_inv
      exact ⟨l, us, rfl, .inr ⟨SqT.of (w.tup h1), q _ _ _ (Go.refl w) r⟩⟩⟩
theorem rep_ints {t : Bool} {v : V} {ns : List Int} (r : Rep F v (eR t D.int ns)) : ∃ a, v = .ref a ∧ F a = some (sqO t (ns.map V.int)) ∧ ns.length ≤ 100000 := by
  obtain ⟨l, us, rfl, h1, s1, z1⟩ := r.sq_inv
  rw [s1.ints] at h1
  exact ⟨l, rfl, h1, by simpa using z1⟩
theorem cl_sum {ns : List Int} (hc : X.calm = true := by rfl) : CalR X (.builtin "sum") F W [eR false D.int ns] (.int ns.sum) := ⟨_, cr_sum hc, fun vs F1 H1 _ r w Q q => by
  cases r with
  | cons r t =>
    cases t
    obtain ⟨l, rfl, h1, z⟩ := rep_ints r
    exact ⟨l, ns, rfl, SqL.of (w.lst h1), q _ F1 H1 (Go.refl w) (.int _)⟩⟩
/-- the greatest, the least -/
def maxL (ns : List Int) : Int := ns.tail.foldl (fun a b => if b > a then b else a) (ns.headD 0)
def minL (ns : List Int) : Int := ns.tail.foldl (fun a b => if b < a then b else a) (ns.headD 0)
theorem maxL_of {ns : List Int} {m : Int} (hm : m ∈ ns) (hle : ∀ y ∈ ns, y ≤ m) : maxL ns = m := by
  have key : ∀ (l : List Int) (a : Int), (a = m ∨ m ∈ l) → a ≤ m → (∀ y ∈ l, y ≤ m) → l.foldl (fun a b => if b > a then b else a) a = m := by
    intro l
    induction l with
    | nil => intro a h _ _; rcases h with h | h; exact h; cases h
    | cons x l ih =>
      intro a h ha hl
      rw [List.foldl_cons]
      have hx := hl x List.mem_cons_self
      refine ih _ ?_ ?_ fun y hy => hl y (List.mem_cons_of_mem _ hy)
      · by_cases hxa : x > a
        · rw [if_pos hxa]
          rcases h with h | h
          · omega
          · rcases List.mem_cons.mp h with e | e
            · exact .inl e.symm
            · exact .inr e
        · rw [if_neg hxa]
          rcases h with h | h
          · exact .inl h
          · rcases List.mem_cons.mp h with e | e
            · left; omega
            · exact .inr e
      · by_cases hxa : x > a
        · rw [if_pos hxa]; exact hx
        · rw [if_neg hxa]; exact ha
  cases ns with
  | nil => cases hm
  | cons x l =>
    refine key l x ?_ (hle x List.mem_cons_self) fun y hy => hle y (List.mem_cons_of_mem _ hy)
    rcases List.mem_cons.mp hm with e | e
    · exact .inl e.symm
    · exact .inr e
theorem minL_of {ns : List Int} {m : Int} (hm : m ∈ ns) (hle : ∀ y ∈ ns, m ≤ y) : minL ns = m := by
  have key : ∀ (l : List Int) (a : Int), (a = m ∨ m ∈ l) → m ≤ a → (∀ y ∈ l, m ≤ y) → l.foldl (fun a b => if b < a then b else a) a = m := by
    intro l
    induction l with
    | nil => intro a h _ _; rcases h with h | h; exact h; cases h
    | cons x l ih =>
      intro a h ha hl
      rw [List.foldl_cons]
      have hx := hl x List.mem_cons_self
      refine ih _ ?_ ?_ fun y hy => hl y (List.mem_cons_of_mem _ hy)
      · by_cases hxa : x < a
        · rw [if_pos hxa]
          rcases h with h | h
          · omega
          · rcases List.mem_cons.mp h with e | e
            · exact .inl e.symm
            · exact .inr e
        · rw [if_neg hxa]
          rcases h with h | h
          · exact .inl h
          · rcases List.mem_cons.mp h with e | e
            · left; omega
            · exact .inr e
      · by_cases hxa : x < a
        · rw [if_pos hxa]; exact hx
        · rw [if_neg hxa]; exact ha
  cases ns with
  | nil => cases hm
  | cons x l =>
    refine key l x ?_ (hle x List.mem_cons_self) fun y hy => hle y (List.mem_cons_of_mem _ hy)
    rcases List.mem_cons.mp hm with e | e
    · exact .inl e.symm
    · exact .inr e
theorem cl_max {ns : List Int} (h0 : ns ≠ []) (hc : X.calm = true := by rfl) : CalR X (.builtin "max") F W [eR false D.int ns] (.int (maxL ns)) := ⟨_, cr_max hc, fun vs F1 H1 _ r w Q q => by
  cases r with
  | cons r t =>
    cases t
    obtain ⟨l, rfl, h1, z⟩ := rep_ints r
    exact ⟨l, ns, rfl, SqL.of (w.lst h1), List.length_pos_iff.mpr h0, fun m hm hle => by rw [← maxL_of hm hle]; exact q _ F1 H1 (Go.refl w) (.int _)⟩⟩
theorem cl_min {ns : List Int} (h0 : ns ≠ []) (hc : X.calm = true := by rfl) : CalR X (.builtin "min") F W [eR false D.int ns] (.int (minL ns)) := ⟨_, cr_min hc, fun vs F1 H1 _ r w Q q => by
  cases r with
  | cons r t =>
    cases t
    obtain ⟨l, rfl, h1, z⟩ := rep_ints r
    exact ⟨l, ns, rfl, SqL.of (w.lst h1), List.length_pos_iff.mpr h0, fun m hm hle => by rw [← minL_of hm hle]; exact q _ F1 H1 (Go.refl w) (.int _)⟩⟩
theorem cl_max2 (hc : X.calm = true := by rfl) : CalR X (.builtin "max") F W [.int i, .int j] (.int (if j > i then j else i)) := ⟨_, call_max2 hc, fun vs F1 H1 _ r w Q q => by
  cases r with
  | cons r t =>
    cases t with
    | cons r2 t =>
      cases t; cases r; cases r2
      exact ⟨i, j, rfl, q _ F1 H1 (Go.refl w) (.int _)⟩⟩
theorem cl_min2 (hc : X.calm = true := by rfl) : CalR X (.builtin "min") F W [.int i, .int j] (.int (if j < i then j else i)) := ⟨_, call_min2 hc, fun vs F1 H1 _ r w Q q => by
  cases r with
  | cons r t =>
    cases t with
    | cons r2 t =>
      cases t; cases r; cases r2
      exact ⟨i, j, rfl, q _ F1 H1 (Go.refl w) (.int _)⟩⟩
theorem rep_bls {t : Bool} {v : V} {ns : List Bool} (r : Rep F v (eR t D.bl ns)) : ∃ a, v = .ref a ∧ F a = some (sqO t (ns.map V.bl)) ∧ ns.length ≤ 100000 := by
  obtain ⟨l, us, rfl, h1, s1, z1⟩ := r.sq_inv
  rw [s1.bls] at h1
  exact ⟨l, rfl, h1, by simpa using z1⟩
theorem cl_all {ns : List Bool} (hc : X.calm = true := by rfl) : CalR X (.builtin "all") F W [eR false D.bl ns] (.bl (ns.all id)) := ⟨_, cr_all hc, fun vs F1 H1 _ r w Q q => by
  cases r with
  | cons r t =>
    cases t
    obtain ⟨l, rfl, h1, z⟩ := rep_bls r
    exact ⟨l, ns, rfl, SqL.of (w.lst h1), q _ F1 H1 (Go.refl w) (.bl _)⟩⟩
theorem cl_any {ns : List Bool} (hc : X.calm = true := by rfl) : CalR X (.builtin "any") F W [eR false D.bl ns] (.bl (ns.any id)) := ⟨_, cr_any hc, fun vs F1 H1 _ r w Q q => by
  cases r with
  | cons r t =>
    cases t
    obtain ⟨l, rfl, h1, z⟩ := rep_bls r
    exact ⟨l, ns, rfl, SqL.of (w.lst h1), q _ F1 H1 (Go.refl w) (.bl _)⟩⟩

/-! ### isinstance -/
def D.ty : D → Option String
  | .non => some "NoneType"
  | .bl _ => some "bool"
  | .int _ => some "int"
  | .str _ => some "str"
  | .sq false _ => some "list"
  | .sq true _ => some "tuple"
  | .dk _ => some "dict"
  | .ob _ _ => none
  | .ow _ => none
  | .fz _ _ => none
theorem Rep.tyx {K : PySem.W.Frag} {H : Hp} {v : V} {T : String} (w : Wd F W H) (r : Rep F v d) (h : d.ty = some T) : TyX K H v (.type T) := by
  cases r with
  | non => cases h; exact .base .non
  | bl b => cases h; exact .base (.bl b)
  | int i => cases h; exact .base (.int i)
  | str s => cases h; exact .base (.str s)
  | @sq a t vs ds q s z =>
    cases t with
    | false => cases h; exact .base (.lst (w.lst q))
    | true => cases h; exact .base (.tup (w.tup q))
  | dk q s z =>
    cases h
    rcases w.rdK q with q | ⟨o, q⟩
    · exact .base (.dK q)
    · exact .fDict q
  | ob q s => cases h
  | ow a => cases h
  | fz q s z => cases h
theorem ev_isi {T U : String} {y : Str} {p2 : Pos} (hm : X.mg "isinstance" = none) (hm2 : X.mg y = none) (ha : EvS X e σ F W d W1) (hd : d.ty = some T) (hk : kitB T U = some q) (hv2 : bootBuiltins y = some (.type U)) (hg : Gl X "isinstance" := by rfl) (hg2 : Gl X y := by rfl)
    (hn : y ≠ "__name__" := by decide) (hdb : (y == ("__debug__" : Str)) = false := by decide) (he : starEach [e, .Name y p2] X.env = (false, eval e X.env) :: starEach [.Name y p2] X.env := by rfl) (hpl : (backTo pos (starEach [.Name y p2] X.env)).any (·.1) = false := by rfl) :
    EvS X (.Call (.Name "isinstance" p) [e, .Name y p2] [] pos) σ F W (.bl q) W1 := fun H w Q k =>
  tm_of (pe_callB call_isi hg hm (by decide +kernel) (pa_cons pe_tm (pa_cons (pe_bltn (v := .ty U) hg2 hm2 hv2 rfl hn hdb) pa_nil) he) (by decide) (by decide) he hpl) (ha H w _ fun v F1 H1 g r =>
    ⟨v, .ty U, .type T, .type U, q, rfl, .ty U, r.tyx g.st hd, kit_ty hk, k _ F1 H1 g (.bl _)⟩)
theorem ev_isi2 {T U U2 : String} {y y2 : Str} {p2 p3 : Pos} {k3 p4} {q q2 : Bool} (hm : X.mg "isinstance" = none) (hm2 : X.mg y = none) (hm3 : X.mg y2 = none) (ha : EvS X e σ F W d W1) (hd : d.ty = some T) (hk : kitB T U = some q) (hk2 : kitB T U2 = some q2) (hv2 : bootBuiltins y = some (.type U)) (hv3 : bootBuiltins y2 = some (.type U2)) (hg : Gl X "isinstance" := by rfl) (hg2 : Gl X y := by rfl) (hg3 : Gl X y2 := by rfl)
    (hn : y ≠ "__name__" := by decide) (hdb : (y == ("__debug__" : Str)) = false := by decide) (hn2 : y2 ≠ "__name__" := by decide) (hdb2 : (y2 == ("__debug__" : Str)) = false := by decide) (he : starEach [e, .Tuple [.Name y p2, .Name y2 p3] k3 p4] X.env = (false, eval e X.env) :: starEach [.Tuple [.Name y p2, .Name y2 p3] k3 p4] X.env := by rfl) (hpl : (backTo pos (starEach [.Tuple [.Name y p2, .Name y2 p3] k3 p4] X.env)).any (·.1) = false := by rfl) :
    EvS X (.Call (.Name "isinstance" p) [e, .Tuple [.Name y p2, .Name y2 p3] k3 p4] [] pos) σ F W (.bl (q || q2)) W1 := fun H w Q k =>
  tm_of (pe_callB call_isiT hg hm (by decide +kernel) (pa_cons pe_tm (pa_cons (pe_tup (pa_cons (pe_bltn (v := .ty U) hg2 hm2 hv2 rfl hn hdb) (pa_cons (pe_bltn (v := .ty U2) hg3 hm3 hv3 rfl hn2 hdb2) pa_nil))) pa_nil) he) (by decide) (by decide) he hpl) (ha H w _ fun v F1 H1 g r =>
    ⟨by show 2 ≤ sizeLine; decide, fun t ht => ⟨v, t, [.ty U, .ty U2], .type T, [.type U, .type U2], q || q2, rfl, upd_same, .cons (.ty U) (.cons (.ty U2) .nil), (r.mono (Go.new (o := .tup [.ty U, .ty U2]) g.st ht).ex).tyx (Go.new g.st ht).st hd, by
      refine kitAny_cons (kit_ty hk) (fun h => ?_) (fun h => by rw [h]; rfl)
      subst h
      refine kitAny_cons (kit_ty hk2) (fun h => ?_) (fun h => by rw [h]; rfl)
      subst h
      exact kitAny_nil, k _ _ _ (g.trans (Go.new g.st ht)) (.bl _)⟩⟩)

/-! ### subscripts -/
theorem atI_rep {F : Hp} {vs : List V} {ds : List D} {i : Int} {d : D} (r : Reps F vs ds) (h : atI ds i = some d) : ∃ v, atI vs i = some v ∧ Rep F v d := by
  unfold atI at h ⊢
  rw [r.length]
  cases e : ixN ds.length i with
  | none => rw [e] at h; cases h
  | some j =>
    rw [e] at h
    exact r.get' h
theorem atI_map {α β : Type} {f : α → β} {xs : List α} {i : Int} {x : α} (h : atI xs i = some x) : atI (xs.map f) i = some (f x) := by
  unfold atI at h ⊢
  rw [List.length_map]
  cases e : ixN xs.length i with
  | none => rw [e] at h; cases h
  | some j =>
    rw [e] at h
    show (xs.map f)[j]? = some (f x)
    have h : xs[j]? = some x := h
    rw [List.getElem?_map, h]; rfl
theorem ixR_sq {t : Bool} : IxR X (fun x y H Q => ∃ p vs i v, x = .ref p ∧ y = .int i ∧ (match t with | true => SqT X.K H p vs | false => SqL X.K H p vs) ∧ atI vs i = some v ∧ Q v H) := by
  cases t with
  | true => exact ix_tup
  | false => exact ix_list
theorem ev_ixD {t : Bool} {xs : List D} (ha : EvS X a σ F W (.sq t xs) W1) (hb : EvS X b σ F W1 (.int i) W2) (hx : atI xs i = some d) (hs : ∀ v i, subscripted b false v i = operate [v, i] (getItem v i) := by intro _ _; rfl) : EvS X (.Subscript a b pos) σ F W d W2 := fun H w Q q =>
  tm_of (pe_ix (ixR_sq (t := t)) pe_tm pe_tm hs) (ha H w _ fun v F1 H1 g r => (hb.mono g.ex).then g fun v2 F2 H2 g2 g02 r2 => by
    obtain ⟨l, us, rfl, h1, s1, z1⟩ := (r.mono g2.ex).sq_inv
    cases r2
    obtain ⟨v, hv, rv⟩ := atI_rep s1 hx
    refine ⟨l, us, i, v, rfl, rfl, ?_, hv, q v F2 H2 g02 rv⟩
    cases t with
    | true => exact SqT.of (g02.st.tup h1)
    | false => exact SqL.of (g02.st.lst h1))
theorem ev_ix {α : Type} {f : α → D} {xs : List α} {t : Bool} {x : α} (ha : EvS X a σ F W (eR t f xs) W1) (hb : EvS X b σ F W1 (.int i) W2) (hx : atI xs i = some x) (hs : ∀ v i, subscripted b false v i = operate [v, i] (getItem v i) := by intro _ _; rfl) : EvS X (.Subscript a b pos) σ F W (f x) W2 :=
  ev_ixD ha hb (atI_map hx) hs

/-! ### slices -/
def cutL {α : Type} (xs : List α) (lo hi : Option Int) : List α := (xs.drop (HT.sIx xs.length 0 lo)).take (HT.sIx xs.length xs.length hi - HT.sIx xs.length 0 lo)
theorem Reps.cut {F : Hp} {vs : List V} {ds : List D} (r : Reps F vs ds) (lo hi : Option Int) : Reps F (cutV vs lo hi) (cutL ds lo hi) := by
  unfold cutV cutL
  rw [r.length]
  exact (r.drop _).take _
theorem cutL_map {α β : Type} (f : α → β) (xs : List α) (lo hi : Option Int) : cutL (xs.map f) lo hi = (cutL xs lo hi).map f := by
  unfold cutL
  rw [List.length_map, List.map_take, List.map_drop]
theorem cutL_len {α : Type} (xs : List α) (lo hi : Option Int) : (cutL xs lo hi).length ≤ xs.length := by
  unfold cutL
  rw [List.length_take, List.length_drop]; omega
def tmO (X : Cx) (o : Option Expr) : TO := match o with
  | none => tNoPart
  | some e => tPart (tmE X e)
theorem po_tm {o : Option Expr} : PO X o (tmO X o) := match o with
  | none => po_none
  | some e => po_some pe_tm
def EvO (X : Cx) (o : Option Expr) (σ : L2.St) (F W : Hp) (r : Option Int) (W' : Hp) : Prop := match o, r with
  | none, none => W' = W
  | some e, some i => EvS X e σ F W (.int i) W'
  | _, _ => False
theorem EvO.run {o : Option Expr} {r : Option Int} {H F0 W0 H0 : Hp} {Q : Option Int → Hp → Prop} (h : EvO X o σ F W r W1) (ex : Same F F1) (w : Wd F1 W H) (q : ∀ F' H', Go F1 W H F' W1 H' → Q r H') : tmO X o σ H Q := by
  cases o with
  | none =>
    cases r with
    | none => have h : W1 = W := h; subst h; exact q F1 H (Go.refl w)
    | some i => exact False.elim h
  | some e =>
    cases r with
    | none => exact False.elim h
    | some i =>
      have h : EvS X e σ F W (.int i) W1 := h
      exact h.mono ex H w _ fun v F' H' g r => by cases r; exact ⟨i, rfl, q F' H' g⟩
theorem eo_none : EvO X none σ F W none W := rfl
theorem eo_some (h : EvS X e σ F W (.int i) W1) : EvO X (some e) σ F W (some i) W1 := h
theorem ev_sl {α : Type} {f : α → D} {xs : List α} {t : Bool} {lo hi : Option Expr} {l u : Option Int} {p2 : Pos} (ha : EvS X a σ F W (eR t f xs) W1) (hl : EvO X lo σ F W1 l W2) (hh : EvO X hi σ F W2 u W3) : EvS X (.Subscript a (.Slice lo hi none p2) pos) σ F W (eR t f (cutL xs l u)) W3 := fun H w Q q => by
  cases t with
  | false =>
    refine tm_of (pe_slice sl_list pe_tm po_tm po_tm) (ha H w _ fun v F1 H1 g r => hl.run (F0 := F) (W0 := W) (H0 := H) g.ex g.st fun F2 H2 g2 => hh.run (F0 := F) (W0 := W) (H0 := H) (g.trans g2).ex g2.st fun F3 H3 g3 => ?_)
    obtain ⟨l, us, rfl, h1, s1, z1⟩ := (r.mono (g2.trans g3).ex).lst_inv
    refine ⟨l, us, rfl, SqL.of (g3.st.lst h1), fun p hp => q _ _ _ ((g.trans (g2.trans g3)).trans (Go.new g3.st hp)) ?_⟩
    unfold eR
    rw [← cutL_map]
    exact Go.rep_new (t := false) g3.st hp (s1.cut _ _) (Nat.le_trans (cutL_len _ _ _) z1)
  | true =>
    refine tm_of (pe_slice sl_tupA pe_tm po_tm po_tm) (ha H w _ fun v F1 H1 g r => hl.run (F0 := F) (W0 := W) (H0 := H) g.ex g.st fun F2 H2 g2 => hh.run (F0 := F) (W0 := W) (H0 := H) (g.trans g2).ex g2.st fun F3 H3 g3 => ?_)
    have r3 := r.mono (g2.trans g3).ex
    obtain ⟨l, us, rfl, h1, s1, z1⟩ := id r3.tup_inv
    refine ⟨l, us, rfl, SqT.of (g3.st.tup h1), fun hw => q _ _ _ (g.trans (g2.trans g3)) ?_, fun _ p hp => q _ _ _ ((g.trans (g2.trans g3)).trans (Go.new g3.st hp)) ?_⟩
    · unfold eR
      rw [← cutL_map]
      unfold cutL
      rw [s1.length] at hw
      rw [hw.1, hw.2]
      have e : ((xs.map f).drop 0).take ((xs.map f).length - 0) = xs.map f := by rw [List.drop_zero, List.take_of_length_le (by simp)]
      rw [e]; exact r3
    · unfold eR
      rw [← cutL_map]
      exact Go.rep_new (t := true) g3.st hp (s1.cut _ _) (Nat.le_trans (cutL_len _ _ _) z1)
theorem ev_rev {α : Type} {f : α → D} {xs : List α} {k1 : Nat} {p1 p2 p3 : Pos} (ha : EvS X a σ F W (eR false f xs) W1) : EvS X (.Subscript a (.Slice none none (some (.UnaryOp .USub (.Constant (.int 1) k1 p1) p2)) p3) pos) σ F W (eR false f xs.reverse) W1 := fun H w Q q =>
  tm_of (pe_revL pe_tm) (ha H w _ fun v F1 H1 g r => by
    obtain ⟨l, us, rfl, h1, s1, z1⟩ := r.lst_inv
    refine ⟨l, us, rfl, SqL.of (g.st.lst h1), fun p hp => q _ _ _ (g.trans (Go.new g.st hp)) ?_⟩
    unfold eR
    rw [List.map_reverse]
    exact Go.rep_new (t := false) g.st hp s1.reverse (by rw [List.length_reverse]; exact z1))
end
end Z
set_option Elab.async false
set_option linter.all false
set_option maxRecDepth 100000
set_option maxHeartbeats 1000000
namespace Z
open PySem PySem.Spec PyProof.Rows L2
/-! ## targets -/
def tmG (X : Cx) (tg : Expr) : TG := fun v σ H Q => ∀ pins s u, Inv X pins σ H s → RelV v u → wpAny (model X.prog X.w) X.A (assign tg X.env u) (fun _ s' => ∃ σ' H', Inv X pins σ' H' s' ∧ Q σ' H') X.xe s
theorem pg_tm {X : Cx} {tg : Expr} : PG X tg (tmG X tg) := ⟨fun pins s σ H v u Q I r h => h pins s u I r⟩
theorem tmG_of {X : Cx} {tg : Expr} {t : TG} (h : PG X tg t) {v : V} {σ : L2.St} {H : Hp} {Q : L2.St → Hp → Prop} (q : t v σ H Q) : tmG X tg v σ H Q := fun pins s u I r => h.run pins s σ H v u Q I r q
def tmGs (X : Cx) (ts : List Expr) : TGs := fun vs σ H Q => ∀ pins s us, Inv X pins σ H s → Vals vs us → wpAny (model X.prog X.w) X.A (assignInOrder ((assignEach ts X.env).map (·.2)) us) (fun _ s' => ∃ σ' H', Inv X pins σ' H' s' ∧ Q σ' H') X.xe s
theorem pgs_tm {X : Cx} {ts : List Expr} : PGs X ts (tmGs X ts) := ⟨fun pins s σ H vs us Q I r h => h pins s us I r⟩
theorem tmGs_of {X : Cx} {ts : List Expr} {t : TGs} (h : PGs X ts t) {vs : List V} {σ : L2.St} {H : Hp} {Q : L2.St → Hp → Prop} (q : t vs σ H Q) : tmGs X ts vs σ H Q := fun pins s us I r => h.run pins s σ H vs us Q I r q
def TgT (X : Cx) (tg : Expr) (v : V) (σ : L2.St) (F W : Hp) (K : L2.St → Prop) : Prop := ∀ H, Wd F W H → ∀ Q : L2.St → Hp → Prop, (∀ σ2, K σ2 → Q σ2 H) → tmG X tg v σ H Q
def TgTs (X : Cx) (ts : List Expr) (vs : List V) (σ : L2.St) (F W : Hp) (K : L2.St → Prop) : Prop := ∀ H, Wd F W H → ∀ Q : L2.St → Hp → Prop, (∀ σ2, K σ2 → Q σ2 H) → tmGs X ts vs σ H Q
section
variable {X : Cx} {v : V} {vs : List V} {σ : L2.St} {F W : Hp} {K : L2.St → Prop} {pos : Pos} {e : Expr} {es : List Expr} {ds : List D}
theorem tg_name {i : Nat} {x : Str} (h : K (σ.set i (some v))) (hi : X.N[i]? = some x := by rfl) (hN : X.N.Nodup := by first | assumption | decide +kernel) (hx : Loc X.env.scope x := by first | exact Or.inl rfl | exact Or.inr rfl)
    (hf : X.fn x = true ∨ X.env.scope.names.lookup x = some .local := by first | exact .inl rfl | exact .inr rfl) : TgT X (.Name x pos) v σ F W K := fun H w Q q => tmG_of (pg_name hN hi hx hf) (q _ h)
theorem tgs_nil (h : K σ) : TgTs X [] [] σ F W K := fun H w Q q => tmGs_of pgs_nil ⟨rfl, q _ h⟩
theorem tgs_cons (h : TgT X e v σ F W fun σ2 => TgTs X es vs σ2 F W K) (hs : (assignEach (e :: es) X.env).map (·.2) = assign e X.env :: (assignEach es X.env).map (·.2) := by rfl) : TgTs X (e :: es) (v :: vs) σ F W K := fun H w Q q =>
  tmGs_of (pgs_cons pg_tm pgs_tm hs) ⟨v, vs, rfl, h H w _ fun σ2 k => k H w Q q⟩
theorem tg_tup {x1 : Nat} (r : Rep F v (.sq true ds)) (h : ∀ vs, Reps F vs ds → TgTs X es vs σ F W K) (hn : (assignEach es X.env).length = ds.length := by rfl) (hst : (assignEach es X.env).findIdx? (·.1) = none := by rfl) (hc : X.calm = true := by rfl) : TgT X (.Tuple es x1 pos) v σ F W K := fun H w Q q => by
  obtain ⟨a, us, rfl, h1, s1, z1⟩ := r.tup_inv
  exact tmG_of (pg_tup hc pgs_tm hn hst) ⟨a, us, rfl, SqT.of (w.tup h1), s1.length, h us s1 H w Q q⟩
end

/-! ## what is walked -/
def EvI (X : Cx) (tg iter : Expr) (σ : L2.St) (F W : Hp) (ds : List D) (W1 : Hp) : Prop :=
  ∀ H, Wd F W H → ∀ R : It → Hp → Prop, (∀ (J : It) (G : Hp → Prop) (Y : Nat → Hp → V → Hp → Prop) (F1 H1 : Hp), Go F W H F1 W1 H1 → Walk J ds.length G Y → (∀ F2 W2 H2, Same F1 F2 → Wd F2 W2 H2 → G H2) →
    (∀ (i : Nat) (F2 W2 H2 H3 : Hp) (x : V) (d : D), Same F1 F2 → Wd F2 W2 H2 → Y i H2 x H3 → ds[i]? = some d → ∃ F3, Go F2 W2 H2 F3 W2 H3 ∧ Rep F3 x d) → R J H1) → tmI X tg iter σ H R
section
variable {X : Cx} {e a b c tg : Expr} {es : List Expr} {σ : L2.St} {F F1 W W1 W2 W3 : Hp} {d d1 d2 d3 : D} {ds : List D} {q q1 q2 : Bool} {pos p : Pos} {i j : Int} {k : Nat}
theorem EvI.mono (h : EvI X tg e σ F W ds W1) (ex : Same F F1) : EvI X tg e σ F1 W ds W1 := fun H w R q =>
  h H (w.mono ex) R fun J G Y F' H' g wk hG hY => by
    obtain ⟨F2, e2, g2⟩ := g.up ex w
    exact q J G Y F2 H' g2 wk (fun F3 W3 H3 e3 w3 => hG F3 W3 H3 (e2.trans e3) w3) fun i F3 W3 H3 H4 x d e3 => hY i F3 W3 H3 H4 x d (e2.trans e3)
theorem ei_sq {t : Bool} {xs : List D} (h : EvS X e σ F W (.sq t xs) W1) : EvI X tg e σ F W xs W1 := fun H w R q => by
  cases t with
  | false =>
    refine tmI_of (pi_list pe_tm) (h H w _ fun v F1 H1 g r => ?_)
    obtain ⟨a, vs, rfl, h1, s1, z1⟩ := r.lst_inv
    refine ⟨a, rfl, ⟨vs, SqL.of (g.st.lst h1)⟩, q _ _ _ F1 H1 g (s1.length ▸ walk_list (xs := vs)) (fun F2 W2 H2 e w2 => SqL.of (w2.lst (e _ _ h1))) fun i F2 W2 H2 H3 x d e w2 y hd => ?_⟩
    obtain ⟨rfl, hx⟩ := y
    obtain ⟨d', hd', r'⟩ := s1.get hx
    rw [hd] at hd'; cases hd'
    exact ⟨F2, Go.refl w2, r'.mono e⟩
  | true =>
    refine tmI_of (pi_tup pe_tm) (h H w _ fun v F1 H1 g r => ?_)
    obtain ⟨a, vs, rfl, h1, s1, z1⟩ := r.tup_inv
    refine ⟨a, rfl, ⟨vs, SqT.of (g.st.tup h1)⟩, q _ _ _ F1 H1 g (s1.length ▸ walk_tup (xs := vs)) (fun F2 W2 H2 e w2 => SqT.of (w2.tup (e _ _ h1))) fun i F2 W2 H2 H3 x d e w2 y hd => ?_⟩
    obtain ⟨rfl, hx⟩ := y
    obtain ⟨d', hd', r'⟩ := s1.get hx
    rw [hd] at hd'; cases hd'
    exact ⟨F2, Go.refl w2, r'.mono e⟩
theorem ei_row {α : Type} {f : α → D} {xs : List α} {t : Bool} (h : EvS X e σ F W (eR t f xs) W1) : EvI X tg e σ F W (xs.map f) W1 := ei_sq h
/-- lo, lo + 1, .. below hi -/
def rg (lo hi : Int) : List Int := (List.range (hi - lo).toNat).map fun (i : Nat) => lo + i
theorem rg_get {lo hi : Int} {i : Nat} (h : i < (hi - lo).toNat) : (rg lo hi)[i]? = some (lo + i) := by
  unfold rg
  rw [List.getElem?_map, List.getElem?_range h]; rfl
theorem rg_len {lo hi : Int} : (rg lo hi).length = (hi - lo).toNat := by unfold rg; rw [List.length_map, List.length_range]
theorem ei_range1 (hm : X.mg "range" = none) (h : EvA X [a] σ F W [.int i] W1) (hz : i < 2 ^ 62) (hz0 : -(2 ^ 62) ≤ i) (hg : Gl X "range" := by rfl) (hs : starEach [a] X.env = [(false, eval a X.env)] := by rfl) : EvI X tg (.Call (.Name "range" p) [a] [] pos) σ F W ((rg 0 i).map D.int) W1 := fun H w R q =>
  tmI_of (pi_range1 hg hm pa_tm hs) (h H w _ fun v F1 H1 g r => by
    cases r with
    | cons r t =>
    cases t; cases r
    have el : ((rg 0 i).map D.int).length = i.toNat := by rw [List.length_map, rg_len]; simp
    refine ⟨i, rfl, hz0, hz, q _ _ _ F1 H1 g (by rw [el]; exact walk_range) (fun _ _ _ _ _ => trivial) fun k F2 W2 H2 H3 x d e w2 y hd => ?_⟩
    obtain ⟨rfl, rfl⟩ := y
    have hk : k < i.toNat := by rw [← el]; exact (List.getElem?_eq_some_iff.mp hd).1
    rw [List.getElem?_map, rg_get (by simpa using hk)] at hd
    cases hd
    exact ⟨F2, Go.refl w2, .int _⟩)
theorem ei_range2 (hm : X.mg "range" = none) (h : EvA X [a, b] σ F W [.int i, .int j] W2) (hz : -(2 ^ 62) ≤ i ∧ i < 2 ^ 62 ∧ -(2 ^ 62) ≤ j ∧ j < 2 ^ 62) (hg : Gl X "range" := by rfl) (hs : starEach [a, b] X.env = [(false, eval a X.env), (false, eval b X.env)] := by rfl) (hs2 : starEach [b] X.env = [(false, eval b X.env)] := by rfl) :
    EvI X tg (.Call (.Name "range" p) [a, b] [] pos) σ F W ((rg i j).map D.int) W2 := fun H w R q =>
  tmI_of (pi_range2 hg hm pa_tm hs hs2) (h H w _ fun v F2 H2 g02 r => by
    cases r with
    | cons r t =>
    cases t with
    | cons r2 t =>
    cases t; cases r; cases r2
    have el : ((rg i j).map D.int).length = (j - i).toNat := by rw [List.length_map, rg_len]
    refine ⟨i, j, rfl, hz, q _ _ _ F2 H2 g02 (by rw [el]; exact walk_range) (fun _ _ _ _ _ => trivial) fun k F3 W3 H3 H4 x d e w2 y hd => ?_⟩
    obtain ⟨rfl, rfl⟩ := y
    have hk : k < (j - i).toNat := by rw [← el]; exact (List.getElem?_eq_some_iff.mp hd).1
    rw [List.getElem?_map, rg_get hk] at hd
    cases hd
    exact ⟨F3, Go.refl w2, .int _⟩)
/-- pairs that a walk makes -/
theorem pair_yield {xs ys : Nat → Option V} {i : Nat} {F2 W2 H2 H3 : Hp} {x : V} {d1 d2 : D} (w : Wd F2 W2 H2) (y : YPair xs ys i H2 x H3) (h1 : ∀ v, xs i = some v → Rep F2 v d1) (h2 : ∀ v, ys i = some v → Rep F2 v d2) : ∃ F3, Go F2 W2 H2 F3 W2 H3 ∧ Rep F3 x (.sq true [d1, d2]) := by
  obtain ⟨T, a, b, rfl, hT, rfl, ha, hb⟩ := y
  exact ⟨_, Go.new w hT, Go.rep_new (t := true) w hT (.cons (h1 a ha) (.cons (h2 b hb) .nil)) (by simp)⟩
/-- numbered -/
def enumD (ds : List D) : List D := ds.zipIdx.map fun p => .sq true [.int (p.2 : Int), p.1]
theorem enumD_get {ds : List D} {i : Nat} : (enumD ds)[i]? = ds[i]?.map fun d => .sq true [.int (i : Int), d] := by
  unfold enumD
  rw [List.getElem?_map, List.getElem?_zipIdx]
  cases ds[i]? <;> simp
theorem ei_enumL {elts : List Expr} {kk : Nat} {tpos : Pos} {xs : List D} (hm : X.mg "enumerate" = none) (h : EvA X [a] σ F W [.sq false xs] W1) (hg : Gl X "enumerate" := by rfl) (hs : starEach [a] X.env = [(false, eval a X.env)] := by rfl) :
    EvI X (.Tuple elts kk tpos) (.Call (.Name "enumerate" p) [a] [] pos) σ F W (enumD xs) W1 := fun H w R q =>
  tmI_of (pi_enum hg hm pa_tm hs) (h H w _ fun v F1 H1 g r => by
    cases r with
    | cons r t =>
    cases t
    obtain ⟨l, vs, rfl, h1, s1, z1⟩ := r.lst_inv
    have el : (enumD xs).length = vs.length := by unfold enumD; rw [List.length_map, List.length_zipIdx, s1.length]
    refine ⟨l, vs, rfl, SqL.of (g.st.lst h1), q _ _ _ F1 H1 g (by rw [el]; exact walk_enum) (fun F2 W2 H2 e w2 => SqL.of (w2.lst (e _ _ h1))) fun i F2 W2 H2 H3 x d e w2 y hd => ?_⟩
    rw [enumD_get, Option.map_eq_some_iff] at hd
    obtain ⟨d', hd', rfl⟩ := hd
    exact pair_yield w2 y (fun v hv => by cases hv; exact .int _) fun v hv => by
      obtain ⟨d2, hd2, r2⟩ := s1.get hv
      rw [hd'] at hd2; cases hd2
      exact r2.mono e)
def zipD (xs ys : List D) : List D := (xs.zip ys).map fun p => .sq true [p.1, p.2]
theorem ei_zip {elts : List Expr} {kk : Nat} {tpos : Pos} {xs ys : List D} (hm : X.mg "zip" = none) (h : EvA X [a, b] σ F W [.sq false xs, .sq false ys] W2) (hg : Gl X "zip" := by rfl) (hs : starEach [a, b] X.env = (false, eval a X.env) :: starEach [b] X.env := by rfl) (hpl : (backTo pos (starEach [b] X.env)).any (·.1) = false := by rfl) :
    EvI X (.Tuple elts kk tpos) (.Call (.Name "zip" p) [a, b] [] pos) σ F W (zipD xs ys) W2 := fun H w R q =>
  tmI_of (pi_zip hg hm pa_tm hs hpl) (h H w _ fun v F2 H2 g02 r => by
    cases r with
    | cons r t =>
    cases t with
    | cons r2 t =>
    cases t
    have g2 := g02
    obtain ⟨l, vs, rfl, h1, s1, z1⟩ := r.lst_inv
    obtain ⟨l2, us, rfl, h2, s2, z2⟩ := r2.lst_inv
    have el : (zipD xs ys).length = min vs.length us.length := by unfold zipD; rw [List.length_map, List.length_zip, s1.length, s2.length]
    refine ⟨l, l2, vs, us, rfl, SqL.of (g2.st.lst h1), SqL.of (g2.st.lst h2), q _ _ _ F2 H2 g02 (walk_zip el) (fun F3 W3 H3 e w3 => ⟨SqL.of (w3.lst (e _ _ h1)), SqL.of (w3.lst (e _ _ h2))⟩) fun i F3 W3 H3 H4 x d e w3 y hd => ?_⟩
    unfold zipD at hd
    rw [List.getElem?_map, Option.map_eq_some_iff] at hd
    obtain ⟨⟨da, db⟩, hd', rfl⟩ := hd
    rw [List.getElem?_zip_eq_some] at hd'
    exact pair_yield w3 y (fun v hv => by
      obtain ⟨d2, hd2, r2⟩ := s1.get hv
      rw [hd'.1] at hd2; cases hd2
      exact r2.mono e) fun v hv => by
      obtain ⟨d2, hd2, r2⟩ := s2.get hv
      rw [hd'.2] at hd2; cases hd2
      exact r2.mono e)
end

/-! ## owned cells -/
def del (W : Hp) (p : Addr) : Hp := fun a => if a = p then none else W a
theorem del_upd {W : Hp} {p : Addr} {o : HO} (h : W p = none) : del (upd W p o) p = W := by
  funext a; unfold del upd
  by_cases e : a = p
  · rw [if_pos e, e]; exact h.symm
  · rw [if_neg e, if_neg e]
theorem Wd.fresh {F W H : Hp} (w : Wd F W H) {p : Addr} (h : H p = none) : F p = none ∧ W p = none := by
  constructor
  · rcases opt_cases (F p) with z | ⟨z, hz⟩
    · exact z
    · obtain ⟨u, hu⟩ := w.f.some hz
      rw [h] at hu; cases hu
  · rcases opt_cases (W p) with z | ⟨z, hz⟩
    · exact z
    · rw [w.w p z hz] at h; cases h
/-- a new owned cell -/
theorem Go.own {F W H : Hp} (w : Wd F W H) {p : Addr} {o : HO} (h : H p = none) : Go F W H F (upd W p o) (upd H p o) := by
  obtain ⟨fp, wp⟩ := w.fresh h
  refine ⟨⟨fun a u q => ?_, fun a u q => ?_, fun a u q => ?_⟩, Same.refl F, fun a u q _ => by rw [upd_ne (ne_of_none q h)]; exact q, fun a o h q => absurd (h.symm.trans q) (by simp), fun a u q => ?_⟩
  · rw [upd_ne (ne_of_none q fp)]; exact w.f a u q
  · by_cases e : a = p
    · subst e; rw [upd_same] at q ⊢; exact q
    · rw [upd_ne e] at q ⊢; exact w.w a u q
  · rw [upd_ne (ne_of_none q fp)]; exact w.d a u q
  · by_cases e : a = p
    · subst e; exact .inr h
    · rw [upd_ne e] at q; exact .inl ⟨u, q⟩
/-- an owned cell is written -/
theorem Go.put {F W H : Hp} (w : Wd F W H) {p : Addr} {o u : HO} (h : W p = some u) : Go F W H F (upd W p o) (upd H p o) := by
  have fp : F p = none := by
    rcases opt_cases (F p) with z | ⟨z, hz⟩
    · exact z
    · rw [w.d p z hz] at h; cases h
  refine ⟨⟨fun a u q => ?_, fun a u q => ?_, fun a u q => ?_⟩, Same.refl F, fun a z q n => ?_, fun a o h q => absurd (h.symm.trans q) (by simp), fun a z q => ?_⟩
  · rw [upd_ne (ne_of_none q fp)]; exact w.f a u q
  · by_cases e : a = p
    · subst e; rw [upd_same] at q ⊢; exact q
    · rw [upd_ne e] at q ⊢; exact w.w a u q
  · rw [upd_ne (ne_of_none q fp)]; exact w.d a u q
  · by_cases e : a = p
    · subst e; rw [h] at n; cases n
    · rw [upd_ne e]; exact q
  · by_cases e : a = p
    · subst e; exact .inl ⟨u, h⟩
    · rw [upd_ne e] at q; exact .inl ⟨z, q⟩
/-- an owned cell is frozen -/
theorem Go.freeze {F W H : Hp} (w : Wd F W H) {p : Addr} {o : HO} (h : W p = some o) : Go F W H (upd F p o) (del W p) H := by
  have fp : F p = none := by
    rcases opt_cases (F p) with z | ⟨z, hz⟩
    · exact z
    · rw [w.d p z hz] at h; cases h
  refine ⟨⟨fun a u q => ?_, fun a u q => ?_, fun a u q => ?_⟩, fun a u q => by rw [upd_ne (ne_of_none q fp)]; exact q, fun a z q _ => q, fun a z q q2 => ?_, fun a z q => ?_⟩
  · by_cases e : a = p
    · subst e; rw [upd_same] at q; cases q; exact .inl (w.w a _ h)
    · rw [upd_ne e] at q; exact w.f a u q
  · unfold del at q
    by_cases e : a = p
    · rw [if_pos e] at q; cases q
    · rw [if_neg e] at q; exact w.w a u q
  · unfold del
    by_cases e : a = p
    · rw [if_pos e]
    · rw [if_neg e]; rw [upd_ne e] at q; exact w.d a u q
  · by_cases e : a = p
    · subst e; exact .inr ⟨o, h⟩
    · rw [upd_ne e] at q2; rw [q] at q2; cases q2
  · unfold del at q
    by_cases e : a = p
    · rw [if_pos e] at q; cases q
    · rw [if_neg e] at q; exact .inl ⟨z, q⟩
/-- one more owned cell, not looked at -/
theorem Wd.less {F W H : Hp} {p : Addr} {o : HO} (w : Wd F (upd W p o) H) (h : W p = none) : Wd F W H := by
  refine ⟨w.f, fun a u q => w.w a u (by rw [upd_ne (ne_of_none q h)]; exact q), fun a u q => ?_⟩
  have := w.d a u q
  by_cases e : a = p
  · rw [e]; exact h
  · rw [upd_ne e] at this; exact this
theorem Go.more {F W H F' W' H' : Hp} {p : Addr} {o : HO} (g : Go F W H F' W' H') (w : Wd F (upd W p o) H) (h : W p = none) : W' p = none ∧ Go F (upd W p o) H F' (upd W' p o) H' := by
  have hp : H p = some o := w.w p o upd_same
  have w'p : W' p = none := by
    rcases opt_cases (W' p) with z | ⟨z, hz⟩
    · exact z
    · rcases g.nW p z hz with ⟨u, hu⟩ | hu
      · rw [h] at hu; cases hu
      · rw [hp] at hu; cases hu
  have h'p : H' p = some o := g.keep p o hp h
  have fp : F p = none := by
    rcases opt_cases (F p) with z | ⟨z, hz⟩
    · exact z
    · have := w.d p z hz; rw [upd_same] at this; cases this
  refine ⟨w'p, ⟨g.st.f, fun a u q => ?_, fun a u q => ?_⟩, g.ex, fun a u q n => ?_, fun a u q q2 => ?_, fun a u q => ?_⟩
  · by_cases e : a = p
    · subst e; rw [upd_same] at q; cases q; exact h'p
    · rw [upd_ne e] at q; exact g.st.w a u q
  · by_cases e : a = p
    · subst e
      rcases g.nF a u fp q with z | ⟨z, hz⟩
      · rw [hp] at z; cases z
      · rw [h] at hz; cases hz
    · rw [upd_ne e]; exact g.st.d a u q
  · by_cases e : a = p
    · subst e; rw [upd_same] at n; cases n
    · rw [upd_ne e] at n; exact g.keep a u q n
  · rcases g.nF a u q q2 with z | ⟨z, hz⟩
    · exact .inl z
    · exact .inr ⟨z, by rw [upd_ne (ne_of_none hz h)]; exact hz⟩
  · by_cases e : a = p
    · subst e; exact .inl ⟨o, upd_same⟩
    · rw [upd_ne e] at q
      rcases g.nW a u q with ⟨z, hz⟩ | z
      · exact .inl ⟨z, by rw [upd_ne e]; exact hz⟩
      · exact .inr z
/-- a value that no object is needed for: back to what was frozen -/
theorem Go.back {F W H F' W' H' : Hp} (g : Go F W H F' W' H') : Go F W H F W' H' :=
  ⟨g.st.mono g.ex, Same.refl F, g.keep, fun a o h q => absurd (h.symm.trans q) (by simp), g.nW⟩
end Z
set_option Elab.async false
set_option linter.all false
set_option maxRecDepth 100000
set_option maxHeartbeats 1000000
namespace Z
open PySem PySem.Spec PyProof.Rows L2
/-! ## comprehensions -/
def tmTs (X : Cx) (ifs : List Expr) : TT := fun σ H Q => ∀ pins s, Inv X pins σ H s →
  wpAny (model X.prog X.w) X.A (forIn ifs true fun c r => if r = true then do let ok ← isTrue c X.env (eval c X.env); pure (ForInStep.yield ok) else pure (ForInStep.yield r)) (TP X pins σ Q) X.xe s
theorem pts_tm {X : Cx} {ifs : List Expr} : PTs X ifs (tmTs X ifs) := ⟨fun pins s _ _ _ I h => h pins s I⟩
theorem tmTs_of {X : Cx} {ifs : List Expr} {t : TT} (h : PTs X ifs t) {σ : L2.St} {H : Hp} {Q : Bool → Hp → Prop} (q : t σ H Q) : tmTs X ifs σ H Q := fun pins s I => h.run pins s σ H Q I q
def EvTs (X : Cx) (ifs : List Expr) (σ : L2.St) (F W : Hp) (b : Bool) (W' : Hp) : Prop :=
  ∀ H, Wd F W H → ∀ Q : Bool → Hp → Prop, (∀ F' H', Go F W H F' W' H' → Q b H') → tmTs X ifs σ H Q
section
variable {X : Cx} {e elt a b c tg iter : Expr} {es ifs : List Expr} {σ : L2.St} {F F1 W W1 W2 W3 : Hp} {d d1 d2 d3 : D} {ds : List D} {q q1 q2 : Bool} {pos p : Pos} {i j : Int} {k : Nat}
theorem ets_nil : EvTs X [] σ F W true W := fun H w Q k => tmTs_of pts_nil (k F H (Go.refl w))
theorem ets_one (h : EvT X c σ F W q W1) : EvTs X [c] σ F W q W1 := fun H w Q k => tmTs_of (pts_one pt_tm) (h H w Q k)
theorem EvTs.mono (h : EvTs X ifs σ F W q W1) (ex : Same F F1) : EvTs X ifs σ F1 W q W1 := fun H w Q k =>
  h H (w.mono ex) Q fun F' H' g => by
    obtain ⟨F2, e2, g2⟩ := g.up ex w
    exact k F2 H' g2
/-- the block of a comprehension of X -/
abbrev bX (X : Cx) (scope : Scope) (s : Shared) (H : Hp) (C : Addr) (cl : List (Str × Addr)) (fp : List Addr) : Cx := X.blk s H scope (compEnvC scope cl C X.env) fp
def bE (X : Cx) (scope : Scope) (e : Expr) : TE := fun σ H Q => ∀ s H0 C cl fp, tmE (bX X scope s H0 C cl fp) e σ H Q
def bTs (X : Cx) (scope : Scope) (ifs : List Expr) : TT := fun σ H Q => ∀ s H0 C cl fp, tmTs (bX X scope s H0 C cl fp) ifs σ H Q
def bG (X : Cx) (scope : Scope) (tg : Expr) : TG := fun v σ H Q => ∀ s H0 C cl fp, tmG (bX X scope s H0 C cl fp) tg v σ H Q
/-- one turn of a comprehension: the target at v, the tests, the element -/
def Turn1 (X : Cx) (scope : Scope) (vs : List Nat) (tg : Expr) (ifs : List Expr) (elt : Expr) (v : V) (σ : L2.St) (F W : Hp) (b : Bool) (W1 : Hp) (d : D) (W2 : Hp) : Prop :=
  ∀ s H0 C cl fp, TgT (bX X scope s H0 C cl fp) tg v (wipe σ vs) F W fun σ2 => wipe σ2 vs = wipe σ vs ∧ (∀ s H0 C cl fp, EvTs (bX X scope s H0 C cl fp) ifs σ2 F W b W1) ∧ (b = true → ∀ s H0 C cl fp, EvS (bX X scope s H0 C cl fp) elt σ2 F W1 d W2)
/-- what a list comprehension makes -/
def LcS (X : Cx) (elt tg iter : Expr) (ifs : List Expr) (scope : Scope) (own : List (Str × Nat)) (σ : L2.St) (F W : Hp) (d : D) (W' : Hp) : Prop :=
  ∀ H, Wd F W H → ∀ Q : VK, (∀ v F' H', Go F W H F' W' H' → Rep F' v d → Q v H') → tLc (tmI X tg iter) (bG X scope tg) (bTs X scope ifs) (bE X scope elt) (own.map (·.2)) σ H Q
theorem ev_ofLc {own : List (Str × Nat)} {scope : Scope} (h : LcS X elt tg iter ifs scope own σ F W d W1) (ok : BlkOk X.N X.env.scope scope own := by exact blkOk_by (by decide +kernel)) (hc : X.calm = true := by rfl) (hN : X.N.Nodup := by first | assumption | decide +kernel) (hs : ∀ x, foldedSetIterable iter X.env x = pure x := by intro _; rfl) :
    EvS X (.ListComp elt [⟨tg, iter, ifs, 0⟩] scope pos) σ F W d W1 := fun H w Q q =>
  tm_of (pe_lc (g := bG X scope tg) (tt := bTs X scope ifs) (te := bE X scope elt) hc hN pi_tm ok (fun s H0 C cl fp => ⟨fun pins s1 σ1 H1 v u Q1 I r h => h s H0 C cl fp pins s1 u I r⟩)
    (fun s H0 C cl fp => ⟨fun pins s1 σ1 H1 Q1 I h => h s H0 C cl fp pins s1 I⟩) (fun s H0 C cl fp => ⟨fun pins s1 σ1 H1 Q1 I h => h s H0 C cl fp pins s1 I⟩) hs) (h H w Q q)
theorem lc_G {own : List (Str × Nat)} {scope : Scope} {n : Nat} {Wf Wm : Nat → Hp} {p : Nat → Bool} {g : Nat → D} (hi : EvI X tg iter σ F W ds (Wf 0)) (hn : ds.length = n)
    (body : ∀ (i : Nat) (d : D), ds[i]? = some d → ∀ v F1, Same F F1 → Rep F1 v d → Turn1 X scope (own.map (·.2)) tg ifs elt v σ F1 (Wf i) (p i) (Wm i) (g i) (Wf (i + 1))) (hw : ∀ i, i < n → p i = false → Wm i = Wf (i + 1)) (hz : n ≤ 100000)
    : LcS X elt tg iter ifs scope own σ F W (.sq false (((List.range n).filter p).map g)) (Wf n) := fun H w Q q =>
    (hi H w _ fun J G Y F1 H1 g1 wk hG hY => fun Dl hD => by
      have hDl := g1.st.fresh hD
      rw [hn] at wk
      refine lc_it wk (fun i H' => ∃ Fi acc, Go F1 (upd (Wf 0) Dl (.lst [])) (upd H1 Dl (.lst [])) Fi (upd (Wf i) Dl (.lst acc)) H' ∧ Reps Fi acc (((List.range i).filter p).map g) ∧ Wf i Dl = none) ?_ ?_ ?_ ?_
      · exact ⟨F1, [], Go.refl (Go.own g1.st hD).st, .nil, hDl.2⟩
      · rintro i H' hi' ⟨Fi, acc, gi, _, _⟩
        exact hG Fi _ H' gi.ex gi.st
      · rintro i x H' H'' hi' ⟨Fi, acc, gi, racc, wD⟩ hy
        have hi2 : i < ds.length := by omega
        obtain ⟨F3, g3, r3⟩ := hY i Fi _ H' H'' x ds[i] gi.ex gi.st hy (by simp [hi2])
        have w3 := g3.st.less wD
        have tn := body i ds[i] (by simp [hi2]) x F3 ((g1.ex.trans gi.ex).trans g3.ex) r3
        intro s0 H0' C cl fp
        refine tn s0 H0' C cl fp H'' w3 _ fun σ2 ⟨hσ, ht, he⟩ => ⟨hσ, fun s1 H1' C1 cl1 fp1 => ht s1 H1' C1 cl1 fp1 H'' w3 _ fun F4 H4 g4 => ?_⟩
        obtain ⟨wmD, g4'⟩ := g4.more g3.st wD
        cases hp : p i with
        | false =>
          rw [if_neg Bool.false_ne_true]
          refine ⟨F4, acc, (gi.trans (g3.trans (hw i (by omega) hp ▸ g4'))), ?_, hw i (by omega) hp ▸ wmD⟩
          rw [List.range_succ, List.filter_append, List.map_append]
          simp only [List.filter_cons, hp, Bool.false_eq_true, if_false, List.filter_nil, List.map_nil, List.append_nil]
          exact racc.mono (g3.ex.trans g4.ex)
        | true =>
          rw [if_pos rfl]
          intro s5 H5' C5 cl5 fp5
          refine (he hp s5 H5' C5 cl5 fp5).mono g4.ex H4 g4.st _ fun y F5 H5 g5 r5 => ?_
          obtain ⟨wnD, g5'⟩ := g5.more g4'.st wmD
          have hcell : H5 Dl = some (.lst acc) := g5'.st.w Dl _ upd_same
          have hlen : acc.length ≤ i := by
            rw [racc.length, List.length_map]
            have := List.length_filter_le p (List.range i)
            rw [List.length_range] at this; exact this
          refine ⟨acc, hcell, Nat.lt_of_le_of_lt hlen (Nat.lt_of_lt_of_le (by omega) (sz_ok (Nat.le_refl 100000))), F5, acc ++ [y], ?_, ?_, wnD⟩
          · have := Go.put (o := .lst (acc ++ [y])) g5'.st (p := Dl) upd_same
            rw [upd_upd] at this
            exact gi.trans (g3.trans (g4'.trans (g5'.trans this)))
          · rw [List.range_succ, List.filter_append, List.map_append]
            simp only [List.filter_cons, hp, if_true, List.filter_nil, List.map_cons, List.map_nil]
            exact (racc.mono (g3.ex.trans (g4.ex.trans g5.ex))).snoc r5
      · rintro H' ⟨Fi, acc, gi, racc, wD⟩
        have fr := Go.freeze gi.st (p := Dl) upd_same
        rw [del_upd wD] at fr
        refine q (.ref Dl) _ H' ((g1.trans (Go.own g1.st hD)).trans (gi.trans fr)) (.sq upd_same (racc.mono fr.ex) ?_)
        rw [List.length_map]
        have := List.length_filter_le p (List.range n)
        rw [List.length_range] at this; omega)
/-- over the rows of one sort, nothing drawn -/
theorem lc_of {α : Type} {xs : List α} {f : α → D} {p : α → Bool} {g : α → D} {own : List (Str × Nat)} {scope : Scope} (hi : EvI X tg iter σ F W (xs.map f) W1) (hz : xs.length ≤ 100000)
    (body : ∀ x ∈ xs, ∀ v F1, Same F F1 → Rep F1 v (f x) → Turn1 X scope (own.map (·.2)) tg ifs elt v σ F1 W1 (p x) W1 (g x) W1)
    : LcS X elt tg iter ifs scope own σ F W (.sq false ((xs.filter p).map g)) W1 := by
  cases xs with
  | nil =>
    exact lc_G (n := 0) (Wf := fun _ => W1) (Wm := fun _ => W1) (p := fun _ => false) (g := fun _ => D.non) hi rfl (fun i d h => by simp at h) (fun _ _ _ => rfl) (Nat.zero_le _)
  | cons x0 xs' =>
    have e : ((List.range (x0 :: xs').length).filter (fun i => p ((x0 :: xs').getD i x0))).map (fun i => g ((x0 :: xs').getD i x0)) = ((x0 :: xs').filter p).map g := by
      have h0 : (List.range (x0 :: xs').length).map (fun i => (x0 :: xs').getD i x0) = x0 :: xs' := by
        apply List.ext_getElem
        · simp
        · intro i h1 h2
          rw [List.getElem_map, List.getElem_range, List.getD_eq_getElem?_getD, List.getElem?_eq_getElem h2]; rfl
      conv => rhs; rw [← h0]
      rw [List.filter_map, List.map_map]
      rfl
    rw [← e]
    refine lc_G (n := (x0 :: xs').length) (Wf := fun _ => W1) (Wm := fun _ => W1) hi (by rw [List.length_map]) (fun i d h v F1 ex r => ?_) (fun _ _ _ => rfl) hz
    rw [List.getElem?_map, Option.map_eq_some_iff] at h
    obtain ⟨x, hx, rfl⟩ := h
    have e2 : (x0 :: xs').getD i x0 = x := by rw [List.getD_eq_getElem?_getD, hx]; rfl
    rw [e2]
    exact body x (List.mem_of_getElem? hx) v F1 ex r
theorem LcS.is {own : List (Str × Nat)} {scope : Scope} (h : LcS X elt tg iter ifs scope own σ F W d W1) (q : d = d1) : LcS X elt tg iter ifs scope own σ F W d1 W1 := q ▸ h
/-! ## statements -/
structure AE where
  nx : L2.St → Hp → Hp → Prop
  rt : D → Hp → Prop
  bk : L2.St → Hp → Hp → Prop := fun _ _ _ => False
  ct : L2.St → Hp → Hp → Prop := fun _ _ _ => False
/-- what is wanted behind a block comes -/
structure Ok (A : AE) (F W H : Hp) (E : Ends) : Prop where
  nx : ∀ σ' F' W' H', Go F W H F' W' H' → A.nx σ' F' W' → E.nx σ' H'
  rt : ∀ d v F' W' H', Go F W H F' W' H' → Rep F' v d → A.rt d W' → E.rt v H'
  bk : ∀ σ' F' W' H', Go F W H F' W' H' → A.bk σ' F' W' → E.bk σ' H'
  ct : ∀ σ' F' W' H', Go F W H F' W' H' → A.ct σ' F' W' → E.ct σ' H'
def BlkS (X : Cx) (sts : List Stmt) (σ : L2.St) (F W : Hp) (A : AE) : Prop := ∀ H, Wd F W H → ∀ E : Ends, Ok A F W H E → tmB X sts E σ H
theorem Ok.go {A : AE} {H F' W' H' : Hp} {E : Ends} (o : Ok A F W H E) (g : Go F W H F' W' H') : Ok A F' W' H' E :=
  ⟨fun σ' F2 W2 H2 g2 q => o.nx σ' F2 W2 H2 (g.trans g2) q, fun d v F2 W2 H2 g2 r q => o.rt d v F2 W2 H2 (g.trans g2) r q, fun σ' F2 W2 H2 g2 q => o.bk σ' F2 W2 H2 (g.trans g2) q, fun σ' F2 W2 H2 g2 q => o.ct σ' F2 W2 H2 (g.trans g2) q⟩
variable {A : AE} {rest sa sb body : List Stmt} {st : Stmt}
/-- behind what was done -/
theorem BlkS.run {H F' W' H' : Hp} {E : Ends} {sts : List Stmt} {σ' : L2.St} (h : BlkS X sts σ' F' W' A) (o : Ok A F W H E) (g : Go F W H F' W' H') : tmB X sts E σ' H' := h H' g.st E (o.go g)
theorem bl_nil (h : A.nx σ F W) : BlkS X [] σ F W A := fun H w E o => tmB_of pss_nil (o.nx σ F W H (Go.refl w) h)
theorem bl_ret {rest : List Stmt} (h : EvS X e σ F W d W1) (q : A.rt d W1) : BlkS X (.Return (some e) pos :: rest) σ F W A := fun H w E o =>
  tmB_of (pss_cons (ps_ret pe_tm) pss_tm) (h H w _ fun v F' H' g r => o.rt d v F' W1 H' g r q)
theorem bl_retN {rest : List Stmt} (q : A.rt .non W) : BlkS X (.Return none pos :: rest) σ F W A := fun H w E o =>
  tmB_of (pss_cons ps_retN pss_tm) (o.rt .non .non F W H (Go.refl w) .non q)
theorem bl_expr (h : EvS X e σ F W d W1) (k : BlkS X rest σ F W1 A) (hs : swapsWith e none pos.line X.env = pure false := by rfl) : BlkS X (.Expr e pos :: rest) σ F W A := fun H w E o =>
  tmB_of (pss_cons (ps_expr pe_tm hs) pss_tm) (h H w _ fun v F' H' g r => k.run o g.back)
theorem bl_asg {i : Nat} {x : Str} {pos' : Pos} (h : EvS X e σ F W d W1) (k : ∀ v F1, Same F F1 → Rep F1 v d → BlkS X rest (σ.set i (some v)) F1 W1 A) (hi : X.N[i]? = some x := by rfl) (hx : Loc X.env.scope x := by first | exact Or.inl rfl | exact Or.inr rfl)
    (hs : swapsWith e (some (.Name x pos')) pos.line X.env = pure false := by rfl) (hN : X.N.Nodup := by first | assumption | decide +kernel) (hf : X.fn x = true ∨ X.env.scope.names.lookup x = some .local := by first | exact .inl rfl | exact .inr rfl) :
    BlkS X (.Assign [.Name x pos'] e pos :: rest) σ F W A := fun H w E o =>
  tmB_of (pss_cons (ps_set hN hi hx pe_tm hs hf) pss_tm) (h H w _ fun v F' H' g r => (k v F' g.ex r).run o g)
/-- data that no object is needed for -/
inductive Flat : D → V → Prop
  | non : Flat .non .non
  | bl (b : Bool) : Flat (.bl b) (.bl b)
  | int (i : Int) : Flat (.int i) (.int i)
  | str (s : Str) : Flat (.str s) (.str s)
theorem Flat.eq {v v' : V} (f : Flat d v) (r : Rep F v' d) : v' = v := by cases f <;> cases r <;> rfl
theorem Flat.rep {v : V} (f : Flat d v) : Rep F v d := by
  cases f with
  | non => exact .non
  | bl b => exact .bl b
  | int i => exact .int i
  | str s => exact .str s
theorem bl_asgF {i : Nat} {x : Str} {pos' : Pos} {v : V} (h : EvS X e σ F W d W1) (f : Flat d v) (k : BlkS X rest (σ.set i (some v)) F W1 A) (hi : X.N[i]? = some x := by rfl) (hx : Loc X.env.scope x := by first | exact Or.inl rfl | exact Or.inr rfl)
    (hs : swapsWith e (some (.Name x pos')) pos.line X.env = pure false := by rfl) (hN : X.N.Nodup := by first | assumption | decide +kernel) (hf : X.fn x = true ∨ X.env.scope.names.lookup x = some .local := by first | exact .inl rfl | exact .inr rfl) :
    BlkS X (.Assign [.Name x pos'] e pos :: rest) σ F W A := fun H w E o =>
  tmB_of (pss_cons (ps_set hN hi hx pe_tm hs hf) pss_tm) (h H w _ fun v' F' H' g r => by rw [f.eq r]; exact k.run o g.back)
/-- name = [..] on one line: the name is stored within the comprehension -/
theorem bl_asgLc {i : Nat} {x : Str} {pos' : Pos} {own : List (Str × Nat)} {scope : Scope} (h : LcS X elt tg iter ifs scope own σ F W d W1) (k : ∀ v F1, Same F F1 → Rep F1 v d → BlkS X rest (σ.set i (some v)) F1 W1 A) (hi : X.N[i]? = some x := by rfl)
    (hx : X.env.scope.names.lookup x = some .local := by rfl) (hsw : swapsWith (.ListComp elt [⟨tg, iter, ifs, 0⟩] scope p) (some (.Name x pos')) pos.line X.env = pure true := by exact sw_true rfl rfl rfl (by decide +kernel))
    (ok : BlkOk X.N X.env.scope scope own := by exact blkOk_by (by decide +kernel)) (hc : X.calm = true := by rfl) (hN : X.N.Nodup := by first | assumption | decide +kernel) (hs : ∀ x, foldedSetIterable iter X.env x = pure x := by intro _; rfl) :
    BlkS X (.Assign [.Name x pos'] (.ListComp elt [⟨tg, iter, ifs, 0⟩] scope p) pos :: rest) σ F W A := fun H w E o =>
  tmB_of (pss_cons (ps_setLc (g := bG X scope tg) (tt := bTs X scope ifs) (te := bE X scope elt) hc hN hi hx hsw pi_tm ok (fun s H0 C cl fp => ⟨fun pins s1 σ1 H1 v u Q1 I r h => h s H0 C cl fp pins s1 u I r⟩)
    (fun s H0 C cl fp => ⟨fun pins s1 σ1 H1 Q1 I h => h s H0 C cl fp pins s1 I⟩) (fun s H0 C cl fp => ⟨fun pins s1 σ1 H1 Q1 I h => h s H0 C cl fp pins s1 I⟩) hs) pss_tm) (h H w _ fun v F' H' g r => (k v F' g.ex r).run o g)
/-- name = .. where the targets are several, or no name -/
theorem bl_asgT {tg : Expr} (h : EvS X e σ F W d W1) (k : ∀ v F1, Same F F1 → Rep F1 v d → TgT X tg v σ F1 W1 fun σ2 => BlkS X rest σ2 F1 W1 A) (hs : swapsWithSole [tg] e pos.line X.env = pure false := by rfl) (hw : swappedStores [tg] e X.env = pure none := by rfl)
    (h1 : (assignEach [tg] X.env).map (·.2) = [assign tg X.env] := by rfl) : BlkS X (.Assign [tg] e pos :: rest) σ F W A := fun H w E o =>
  tmB_of (pss_cons (ps_asg pe_tm pg_tm hs hw h1) pss_tm) (h H w _ fun v F' H' g r => k v F' g.ex r H' g.st _ fun σ2 q => q.run o g)
theorem bl_if (hc : EvT X c σ F W q W1) (ha : q = true → BlkS X sa σ F W1 { A with nx := fun σ' F' W' => BlkS X rest σ' F' W' A }) (hb : q = false → BlkS X sb σ F W1 { A with nx := fun σ' F' W' => BlkS X rest σ' F' W' A }) :
    BlkS X (.If c sa sb pos :: rest) σ F W A := fun H w E o =>
  tmB_of (pss_cons (ps_if pt_tm pss_tm pss_tm) pss_tm) (hc H w _ fun F' H' g => by
    have o2 : Ok { A with nx := fun σ' F' W' => BlkS X rest σ' F' W' A } F W H { E with nx := tmB X rest E } := ⟨fun σ' F2 W2 H2 g2 q => q.run o g2, o.rt, o.bk, o.ct⟩
    cases q with
    | true => rw [if_pos rfl]; exact (ha rfl).run o2 g.back
    | false => rw [if_neg Bool.false_ne_true]; exact (hb rfl).run o2 g.back)
/-- if .. : (returns), no else: the rest goes on -/
theorem bl_when (hc : EvT X c σ F W q W1) (ha : q = true → BlkS X sa σ F W1 { A with nx := fun σ' F' W' => BlkS X rest σ' F' W' A }) (hb : q = false → BlkS X rest σ F W1 A) : BlkS X (.If c sa [] pos :: rest) σ F W A :=
  bl_if hc ha fun h => bl_nil (hb h)
theorem bl_absurd (h : False) : BlkS X sa σ F W A := h.elim
theorem bl_pass (k : BlkS X rest σ F W A) : BlkS X (.Pass pos :: rest) σ F W A := fun H w E o => tmB_of (pss_cons ps_pass pss_tm) (k.run o (Go.refl w))
theorem bl_brk (h : A.bk σ F W) : BlkS X (.Break pos :: rest) σ F W A := fun H w E o => tmB_of (pss_cons ps_break pss_tm) (o.bk σ F W H (Go.refl w) h)
theorem bl_cnt (h : A.ct σ F W) : BlkS X (.Continue pos :: rest) σ F W A := fun H w E o => tmB_of (pss_cons ps_continue pss_tm) (o.ct σ F W H (Go.refl w) h)
/-- for: I by the number of turns, the slots and the worlds -/
theorem bl_for {n : Nat} (hi : EvI X tg iter σ F W ds W1) (hn : ds.length = n) (I : Nat → L2.St → Hp → Hp → Prop) (h0 : ∀ F1, Same F F1 → I 0 σ F1 W1)
    (hs : ∀ (i : Nat) (d : D), ds[i]? = some d → ∀ σ' F1 W', Same F F1 → I i σ' F1 W' → ∀ v F2, Same F1 F2 → Rep F2 v d → TgT X tg v σ' F2 W' fun σ2 => BlkS X body σ2 F2 W' { nx := I (i + 1), rt := A.rt, bk := fun σ' F' W' => BlkS X rest σ' F' W' A, ct := I (i + 1) })
    (hd : ∀ σ' F1 W', Same F F1 → I n σ' F1 W' → BlkS X rest σ' F1 W' A) (hc : X.calm = true := by rfl) (hp : PassesOwn (model X.prog X.w) X.A X.env X.xe := by exact PassesOwn.never) (hf : ∀ x, foldedSetIterable iter X.env x = pure x := by intro _; rfl) :
    BlkS X (.For tg iter body [] pos :: rest) σ F W A := fun H w E o =>
  tmB_of (pss_cons (ps_for hp hc pi_tm pg_tm pss_tm hf) pss_tm) (hi H w _ fun J G Y F1 H1 g1 wk hG hY => by
    rw [hn] at wk
    refine for_it wk (fun i σ' H' => ∃ F' W', Go F W H F' W' H' ∧ Same F1 F' ∧ I i σ' F' W') ⟨F1, W1, g1, Same.refl F1, h0 F1 g1.ex⟩ ?_ ?_ ?_
    · rintro i σ' H' _ ⟨F', W', g, e, _⟩
      exact hG F' W' H' e g.st
    · rintro i x σ' H' H'' hi' ⟨F', W', g, e, inv⟩ hy
      have hi2 : i < ds.length := by omega
      obtain ⟨F3, g3, r3⟩ := hY i F' W' H' H'' x ds[i] e g.st hy (by simp [hi2])
      refine hs i ds[i] (by simp [hi2]) σ' F' W' g.ex inv x F3 g3.ex r3 H'' g3.st _ fun σ2 q => q H'' g3.st _ ?_
      have gg := g.trans g3
      exact ⟨fun σ4 F4 W4 H4 g4 k => ⟨F4, W4, gg.trans g4, e.trans (g3.ex.trans g4.ex), k⟩, fun d v F4 W4 H4 g4 r k => o.rt d v F4 W4 H4 (gg.trans g4) r k, fun σ4 F4 W4 H4 g4 k => k.run o (gg.trans g4), fun σ4 F4 W4 H4 g4 k => ⟨F4, W4, gg.trans g4, e.trans (g3.ex.trans g4.ex), k⟩⟩
    · rintro σ' H' ⟨F', W', g, e, inv⟩
      exact (hd σ' F' W' g.ex inv).run o g)
/-- over rows of one sort, the state a fold -/
theorem bl_forL {α S : Type} {xs : List α} {f : α → D} (hi : EvI X tg iter σ F W (xs.map f) W1) (st : S → α → S) (s0 : S) (J : S → L2.St → Hp → Hp → Prop) (h0 : ∀ F1, Same F F1 → J s0 σ F1 W1)
    (hs : ∀ pr x po, xs = pr ++ x :: po → ∀ σ' F1 W', Same F F1 → J (pr.foldl st s0) σ' F1 W' → ∀ v F2, Same F1 F2 → Rep F2 v (f x) → TgT X tg v σ' F2 W' fun σ2 =>
      BlkS X body σ2 F2 W' { nx := J (st (pr.foldl st s0) x), rt := A.rt, bk := fun σ' F' W' => BlkS X rest σ' F' W' A, ct := J (st (pr.foldl st s0) x) })
    (hd : ∀ σ' F1 W', Same F F1 → J (xs.foldl st s0) σ' F1 W' → BlkS X rest σ' F1 W' A) (hc : X.calm = true := by rfl) (hp : PassesOwn (model X.prog X.w) X.A X.env X.xe := by exact PassesOwn.never) (hf : ∀ x, foldedSetIterable iter X.env x = pure x := by intro _; rfl) :
    BlkS X (.For tg iter body [] pos :: rest) σ F W A :=
  bl_for (n := xs.length) hi (by rw [List.length_map]) (fun i => J ((xs.take i).foldl st s0)) h0 (fun i d h σ' F1 W' e inv v F2 e2 r => by
    rw [List.getElem?_map, Option.map_eq_some_iff] at h
    obtain ⟨x, hx, rfl⟩ := h
    have hi' := (List.getElem?_eq_some_iff.mp hx).1
    have e1 : (xs.take (i + 1)).foldl st s0 = st ((xs.take i).foldl st s0) x := by rw [List.take_add_one, hx, List.foldl_append]; rfl
    rw [e1]
    refine hs (xs.take i) x (xs.drop (i + 1)) ?_ σ' F1 W' e inv v F2 e2 r
    have hd : xs.drop i = x :: xs.drop (i + 1) := by
      rw [List.drop_eq_getElem_cons hi']
      rw [List.getElem?_eq_getElem hi'] at hx; cases hx; rfl
    rw [← hd, List.take_append_drop]) (fun σ' F1 W' e inv => hd σ' F1 W' e (by rw [List.take_length] at inv; exact inv)) hc hp hf
/-- while: I by a measure -/
theorem bl_while (I : Nat → L2.St → Hp → Hp → Prop) (m0 : Nat) (h0 : I m0 σ F W)
    (hs : ∀ m σ' F1 W', Same F F1 → I m σ' F1 W' → ∃ q W2, EvT X c σ' F1 W' q W2 ∧ (q = true → BlkS X body σ' F1 W2 { nx := fun σ2 F2 W3 => ∃ m', m' < m ∧ I m' σ2 F2 W3, rt := A.rt, bk := fun σ' F' W' => BlkS X rest σ' F' W' A, ct := fun σ2 F2 W3 => ∃ m', m' < m ∧ I m' σ2 F2 W3 }) ∧ (q = false → BlkS X rest σ' F1 W2 A))
    (hp : PassesOwn (model X.prog X.w) X.A X.env X.xe := by exact PassesOwn.never) : BlkS X (.While c body [] pos :: rest) σ F W A := fun H w E o =>
  tmB_of (pss_cons (ps_while hp pt_tm pss_tm) pss_tm) (by
    refine ⟨fun m σ' H' => ∃ F' W', Go F W H F' W' H' ∧ I m σ' F' W', ⟨m0, F, W, Go.refl w, h0⟩, ?_⟩
    rintro m σ' H' ⟨F', W', g, inv⟩
    obtain ⟨q, W2, ht, hb, hr⟩ := hs m σ' F' W' g.ex inv
    refine ht H' g.st _ fun F3 H3 g3 => ?_
    have gg := g.trans g3.back
    cases q with
    | true =>
      rw [if_pos rfl]
      refine ⟨fun σ2 H2 => ∃ m', m' < m ∧ ∃ F' W', Go F W H F' W' H2 ∧ I m' σ2 F' W', fun σ2 H2 h => h, (hb rfl) H3 g3.back.st _ ?_⟩
      exact ⟨fun σ4 F4 W4 H4 g4 ⟨m', hm, k⟩ => ⟨m', hm, F4, W4, gg.trans g4, k⟩, fun d v F4 W4 H4 g4 r k => o.rt d v F4 W4 H4 (gg.trans g4) r k, fun σ4 F4 W4 H4 g4 k => k.run o (gg.trans g4), fun σ4 F4 W4 H4 g4 ⟨m', hm, k⟩ => ⟨m', hm, F4, W4, gg.trans g4, k⟩⟩
    | false =>
      rw [if_neg Bool.false_ne_true]
      exact (hr rfl).run o gg)
end

/-! ## defs -/
/-- what a def makes of what it is handed, the owned cells ahead and behind -/
abbrev Rel := List D → Hp → Hp → D → Hp → Prop
def spG (rel : Rel) : Sp := fun vs H Q _ => ∃ F W ds d W', Wd F W H ∧ Reps F vs ds ∧ rel ds F W d W' ∧ ∀ v F' H', Go F W H F' W' H' → Rep F' v d → Q v H'
/-- nothing owned is written -/
def relP (r : List D → D → Prop) : Rel := fun ds _ W d W' => r ds d ∧ W' = W
structure FnD (P : Program) (w : World) (K : PySem.W.Frag) (mg : Str → Option Value) (base : Heap) (k : Nat) (x : Str) (ps : List Str) (rel : Rel) : Prop where
  ex : ∃ f fd, FnOk P w K mg base CX0 k f fd ps (spG rel) ∧ mg x = some (.ref f) ∧ PySem.W.keepIn K (.ref f) = true ∧ Binds K fd ps []
section
variable {P : Program} {w : World} {K : PySem.W.Frag} {mg : Str → Option Value} {base : Heap}
theorem fn_ok {x qual : Str} {st : Stmt} {f : Addr} {fd : FuncData} {N ps : List Str} {k : Nat} {rel : Rel} (Fu : Fun K x qual st f fd) (S : FnScope N ps (defScope st)) (hl : ∀ ds F W d W', rel ds F W d W' → ds.length = ps.length)
    (hb : ∀ (cdv : Value) (A : Around) (outer : List Env) (s : Shared) (H : Hp) (E : XK), Room k (A.deeper (envOfC qual (defScope st) s.heap.objs.size f cdv)) → ∀ ds W d W' vs F, rel ds F W d W' → Reps F vs ds →
      BlkS (cxOf CX0 P w K mg base N qual (defScope st) f cdv A outer s H E).nox (defBody st) (start N vs) F W { nx := fun _ _ W2 => d = .non ∧ W2 = W', rt := fun d' W2 => d' = d ∧ W2 = W' }) :
    FnOk P w K mg base CX0 (k + 1) f fd ps (spG rel) :=
  Fu.ok S (fun vs H Q E h => by
    obtain ⟨F, W, ds, d, W', hw, hr, hrel, _⟩ := h
    rw [hr.length]; exact hl _ _ _ _ _ hrel) fun cdv A outer s H vs Q E hr h => by
    obtain ⟨F, W, ds, d, W', hw, hv, hrel, hq⟩ := h
    exact ⟨_, pss_tm, hb cdv A outer s H E hr ds W d W' vs F hrel hv H hw _ ⟨fun σ' F' W2 H' g ⟨e1, e2⟩ => by
      subst e1; subst e2; exact hq .non F' H' g .non, fun d' v F' W2 H' g r ⟨e1, e2⟩ => by
      subst e1; subst e2; exact hq v F' H' g r, fun σ' F' W2 H' _ k => k.elim, fun σ' F' W2 H' _ k => k.elim⟩⟩
end
section
variable {X : Cx} {e : Expr} {es : List Expr} {σ : L2.St} {F W W1 W2 : Hp} {d : D} {ds : List D} {pos p : Pos} {k k' : Nat} {x : Str} {ps : List Str} {rel : Rel}
theorem ev_callG (Fn : FnD X.prog X.w X.K X.mg X.base k x ps rel) (hr : Room k X.A) (ha : EvA X (e :: es) σ F W ds W1) (h : ∀ F1, Same F F1 → rel ds F1 W1 d W2) (hg : Gl X x := by rfl) (hdb : (x == ("__debug__" : Str)) = false := by decide)
    (he : starEach (e :: es) X.env = (false, eval e X.env) :: starEach es X.env := by rfl) (hpl : (backTo pos (starEach es X.env)).any (·.1) = false := by rfl) : EvS X (.Call (.Name x p) (e :: es) [] pos) σ F W d W2 := fun H w Q q => by
  obtain ⟨f, fd, hF, hm, hk, hb⟩ := Fn.ex
  refine tm_of (pe_call (E := E0) hF hr hg hm hk hb .nil pass0 pa_tm hdb he hpl) (ha H w _ fun vs F1 H1 g r => ?_)
  show spG rel (vs ++ []) H1 Q _
  rw [List.append_nil]
  exact ⟨F1, W1, ds, d, W2, g.st, r, h F1 g.ex, fun v F' H' g2 r2 => q v F' H' (g.trans g2) r2⟩
theorem ev_call {r : List D → D → Prop} (Fn : FnD X.prog X.w X.K X.mg X.base k x ps (relP r)) (hr : Room k X.A) (ha : EvA X (e :: es) σ F W ds W1) (h : r ds d) (hg : Gl X x := by rfl) (hdb : (x == ("__debug__" : Str)) = false := by decide)
    (he : starEach (e :: es) X.env = (false, eval e X.env) :: starEach es X.env := by rfl) (hpl : (backTo pos (starEach es X.env)).any (·.1) = false := by rfl) : EvS X (.Call (.Name x p) (e :: es) [] pos) σ F W d W1 :=
  ev_callG Fn hr ha (fun _ _ => ⟨h, rfl⟩) hg hdb he hpl
end
end Z
set_option Elab.async false
set_option linter.all false
set_option maxRecDepth 100000
set_option maxHeartbeats 1000000
namespace PySem
open Sem (wp)
set_option maxHeartbeats 2000000 in
theorem z_meets_enum1 {v : Value} {o : Obj} {H : Heap → Prop} (B : Begins v o H) :
    Meets (Builtin.«enumerate.__new__» ⟨[.type "enumerate", v], []⟩) (fun _ R s => H s.heap ∧
      R (.ok (.ret (.ref (s.heap.push o).objs.size))) { s with heap := (s.heap.push o).push { cls := .type "enumerate", data := .fields #[.none, .bool false, .ref s.heap.objs.size, rawInt 0, .none, .none] } }) :=
  .of_wp fun prog w A R s h => by
    obtain ⟨hp, g, d, tk, os⟩ := s; obtain ⟨h1, h⟩ := h
    have hsub := sub_enumerate
    have q1 : ∀ {A' : Around} {E : Value → Shared → Prop} {Q : Value → Shared → Prop}, Q (.ref hp.objs.size) ⟨hp.push o, g, d, tk, os⟩ → wpAny (model prog w) A' (pyIter v) Q E ⟨hp, g, d, tk, os⟩ :=
      fun q => B.iter prog w _ _ ⟨hp, g, d, tk, os⟩ _ h1 q
    wp_walk using q1
    refine wpAny_stack_any fun st => wpAny_pure ?_
    split
    · rename_i c _ _ _ _ _
      cases (c == Value.type "enumerate")
      · wp_walk using q1
        exact ⟨_, rfl, h⟩
      · wp_walk using q1
        exact ⟨_, rfl, h⟩
    · wp_walk using q1
      exact ⟨_, rfl, h⟩
section
variable {prog : Program} {w : World} {A : Around} {E : Value → Shared → Prop} {s : Shared}
theorem z_enum_begins {v : Value} {o : Obj} {H : Heap → Prop} {Q : Value → Shared → Prop} (B : Begins v o H) (h1 : H s.heap)
    (h : ∀ h', IsEnum h' (s.heap.objs.size + 1) s.heap.objs.size 0 .none → h'.get? s.heap.objs.size = some o → h'.objs.size = s.heap.objs.size + 2 →
      (∀ b o, s.heap.get? b = some o → h'.get? b = some o) → Q (.ref (s.heap.objs.size + 1)) { s with heap := h' }) :
    wpAny (model prog w) A (call (.type "enumerate") [v]) Q E s := by
  refine callType_new F.called_enumerate (by decide) (F.typeCall_enumerate_1 _) (F.newCall_enumerate_1 _) (fun obj => F.args_object_init_2 obj _) F.entry_enumerate_new
    (z_meets_enum1 B) ⟨h1, ?_⟩
  have hz : (s.heap.push o).objs.size = s.heap.objs.size + 1 := Heap.size_push ..
  show _ ∧ _
  rw [hz]
  have he : IsEnum ((s.heap.push o).push { cls := .type "enumerate", data := .fields #[.none, .bool false, .ref s.heap.objs.size, rawInt 0, .none, .none] }) (s.heap.objs.size + 1) s.heap.objs.size 0 .none := by
    have := Heap.get?_push_size (s.heap.push o) (o := { cls := .type "enumerate", data := .fields #[.none, .bool false, .ref s.heap.objs.size, rawInt 0, .none, .none] }) rfl
    rw [hz] at this; exact this
  refine ⟨⟨_, he, rfl⟩, h _ he (Heap.get?_push_of_some _ (Heap.get?_push_size _ B.free)) (by rw [Heap.size_push, hz]) fun b o x => Heap.get?_push_of_some _ (Heap.get?_push_of_some _ x)⟩
end
end PySem
namespace Z
open PySem PySem.Spec PyProof.Rows L2
/-- a row that is read: a list, a tuple -/
def SqO (K : PySem.W.Frag) (t : Bool) (H : Hp) (a : Addr) (xs : List V) : Prop := match t with
  | true => SqT K H a xs
  | false => SqL K H a xs
def RI (t : Bool) (h : Heap) (it a : Addr) (i : Nat) : Prop := match t with
  | true => h.IsTupleIter it a i
  | false => h.IsListIter it a i
def RS (t : Bool) (h : Heap) (a : Addr) (items : Array Value) : Prop := match t with
  | true => h.IsTuple a items
  | false => h.IsList a items
def rObj (t : Bool) (a : Addr) : Obj := match t with
  | true => { cls := .type "tuple_iterator", data := .fields #[.ref a, .int 0 0] }
  | false => { cls := .type "list_iterator", data := .fields #[.ref a, .int 0 0] }
theorem ri_at {t : Bool} {h h' : Heap} {it a : Addr} {i : Nat} (x : RI t h it a i) (e : ∀ o, h.get? it = some o → h'.get? it = some o) : RI t h' it a i := by
  cases t with
  | true => exact Heap.IsTupleIter.at x e
  | false => exact Heap.IsListIter.at x e
theorem ri_obj {t : Bool} {h : Heap} {it a : Addr} {i : Nat} (x : RI t h it a i) : ∃ o, h.get? it = some o ∧ ∀ v, o.data ≠ .cell v := by
  cases t with
  | true => obtain ⟨o, e, _, d⟩ := x; exact ⟨o, e, fun v q => by rw [d] at q; cases q⟩
  | false => obtain ⟨o, e, _, d⟩ := x; exact ⟨o, e, fun v q => by rw [d] at q; cases q⟩
theorem ri_start {t : Bool} {h : Heap} {it a : Addr} (e : h.get? it = some (rObj t a)) : RI t h it a 0 := by
  cases t with
  | true => exact ⟨_, e, rfl, rfl⟩
  | false => exact ⟨_, e, rfl, rfl⟩
theorem r_begins (t : Bool) (a : Addr) (items : Array Value) : Begins (.ref a) (rObj t a) fun h => RS t h a items := by
  cases t with
  | true => exact begins_tuple a items
  | false => exact begins_list a items
theorem r_draws {t : Bool} {prog : Program} {w : World} {A : Around} (hh : A.handled = none) (it a : Addr) (hne : a ≠ it) (items : Array Value) :
    Draws prog w A it [it, a] items.size (fun i v => items[i]? = some v) (fun i h => RI t h it a i ∧ RS t h a items) := by
  cases t with
  | true => exact Draws.tuple hh it a hne items
  | false => exact Draws.list hh it a hne items
section
variable {X : Cx} {pins : List (Addr × Obj)} {σ : L2.St} {H : Hp} {s : Shared} {a : Addr} {xs ys : List V} {t : Bool}
theorem sqo_row (I : Inv X pins σ H s) (h : SqO X.K t H a xs) : ∃ its : List Value, Vals xs its ∧ RS t s.heap a its.toArray ∧ xs.length ≤ sizeLine := by
  cases t with
  | true =>
    obtain ⟨its, r, p, z⟩ := I.tuple h
    exact ⟨its, r, p, z⟩
  | false =>
    obtain ⟨its, r, p, z⟩ := I.list h
    exact ⟨its, r, p.isList, z⟩
theorem sqo_inj (I : Inv X pins σ H s) (h : SqO X.K t H a xs) (h' : SqO X.K t H a ys) : xs = ys := by
  cases t with
  | true => exact I.tuple_inj h h'
  | false => exact I.list_inj h h'
theorem rs_lt {h : Heap} {items : Array Value} (x : RS t h a items) : a < h.objs.size := by
  cases t with
  | true => obtain ⟨o, e, _⟩ := x; exact Heap.lt_size e
  | false => obtain ⟨o, e, _⟩ := x; exact Heap.lt_size e
end
/-! ### zip of rows of any kinds -/
def ItzG (K : PySem.W.Frag) (t u : Bool) (a b : Addr) : It :=
  ⟨fun i H => ∃ (xs ys : List V) (x y : V), SqO K t H a xs ∧ SqO K u H b ys ∧ xs[i]? = some x ∧ ys[i]? = some y,
    fun i H v H' => ∃ T x y, v = .ref T ∧ H T = none ∧ H' = upd H T (.tup [x, y]) ∧ (∀ xs, SqO K t H a xs → xs[i]? = some x) ∧ ∀ ys, SqO K u H b ys → ys[i]? = some y,
    fun i H => ∃ xs ys : List V, SqO K t H a xs ∧ SqO K u H b ys ∧ i ≤ xs.length ∧ i ≤ ys.length ∧ (xs.length = i ∨ ys.length = i)⟩
theorem turn_zipG {P : Program} {w : World} {K : PySem.W.Frag} {elts : List Expr} {kk : Nat} {tpos : Pos} {t u : Bool} {a b z TI TO i1 i2 : Addr} (D : ZipSep2 z TI TO i1 i2 [i1, a] [i2, b]) (h1a : a ≠ i1) (h2b : b ≠ i2) :
    Turn P w K (.Tuple elts kk tpos) (ItzG K t u a b) [z, TI, TO, i1, i2] z (fun i h => IsZip h z TI TO .none ∧ IsTupOf2 h TI (.ref i1) (.ref i2) ∧ (∃ x y, IsTupOf2 h TO x y) ∧ RI t h i1 a i ∧ RI u h i2 b i) where
  mem := by simp
  obj := fun i h st c hc => by
    obtain ⟨hz, hTI, ⟨x, y, hTO⟩, r1, r2⟩ := st
    have e' : c = z ∨ c = TI ∨ c = TO ∨ c = i1 ∨ c = i2 := by simpa using hc
    rcases e' with q | q | q | q | q
    · rw [q]; exact ⟨_, hz, fun v q => nomatch q⟩
    · rw [q]; exact ⟨_, hTI, fun v q => nomatch q⟩
    · rw [q]; exact ⟨_, hTO, fun v q => nomatch q⟩
    · rw [q]; exact ri_obj r1
    · rw [q]; exact ri_obj r2
  keep := fun i h h' st k => by
    obtain ⟨hz, hTI, ⟨x, y, hTO⟩, r1, r2⟩ := st
    exact ⟨k z (by simp) _ hz, k TI (by simp) _ hTI, ⟨x, y, k TO (by simp) _ hTO⟩, ri_at r1 fun o q => k i1 (by simp) o q, ri_at r2 fun o q => k i2 (by simp) o q⟩
  item := by
    intro X hP hw hK hc i pins s σ H E I hf st hg
    subst hP hw hK
    obtain ⟨hz, hTI, ⟨x0, y0, hTO⟩, r1, r2⟩ := st
    obtain ⟨xs, ys, x, y, hqx, hqy, hx, hy⟩ := hg
    obtain ⟨its, rv, p, _⟩ := sqo_row I hqx
    obtain ⟨its2, rv2, p2, _⟩ := sqo_row I hqy
    obtain ⟨v1, hv1, ru⟩ := rv.get hx
    obtain ⟨v2, hv2, ru2⟩ := rv2.get hy
    have hzl : z < s.heap.objs.size := Heap.lt_size hz
    have hh := I.ok.hd hc
    have hh1 : X.A.in1.handled = none := hh
    refine wpAny_pyNext_zipD2_item D (r_draws hh1 i1 a h1a its.toArray) (r_draws hh1 i2 b h2b its2.toArray) hz hTI hTO ⟨r1, p⟩ ⟨r2, p2⟩ (by simpa using (List.getElem?_eq_some_iff.mp hv1).1) (by simpa using (List.getElem?_eq_some_iff.mp hv2).1) fun x1 x2 h' tk P1 P2 z' TO' r1' r2' hT hsz hk => ?_
    have e1 : x1 = v1 := by have P1 : its.toArray[i]? = some x1 := P1; simp at P1; rw [hv1] at P1; exact (Option.some.inj P1).symm
    have e2 : x2 = v2 := by have P2 : its2.toArray[i]? = some x2 := P2; simp at P2; rw [hv2] at P2; exact (Option.some.inj P2).symm
    subst e1 e2
    refine ⟨_, rfl, wpAny_letOwnedTupleGo_zip (s := { s with heap := h', toks := tk }) z' fun h'' z'' sb => ?_⟩
    have hT2 : h''.get? s.heap.objs.size = some { cls := .type "tuple", data := .seq #[x1, x2] } := (sb.2 _ (Nat.ne_of_gt hzl)).trans hT
    have new : ObjOk X.prog X.w (upd H s.heap.objs.size (.tup [x, y])) h'' s.heap.objs.size (.tup [x, y]) :=
      ⟨by show 2 ≤ sizeLine; decide, [x1, x2], .cons ru (.cons ru2 .nil), ⟨_, hT2, rfl, _, rfl⟩⟩
    have I1 : Inv X pins σ (upd H s.heap.objs.size (.tup [x, y])) { s with heap := h'', toks := tk } :=
      I.turnedNew (t' := tk) (ch := [z, TI, TO, i1, i2]) (fun c o hb q => (sb.2 c (fun q' => hb (by simp [q']))).trans (hk c o (fun q' => hb (by simp [q'])) (fun q' => hb (by simp [q'])) (fun q' => hb (by simp [q'])) (fun q' => hb (by simp [q'])) q)) hf (Nat.le_refl _) new
    have i1z : i1 ≠ z := fun e => D.zf1 (by simp [e])
    have i2z : i2 ≠ z := fun e => D.zf2 (by simp [e])
    refine ⟨.ref s.heap.objs.size, _, I1, rfl, ⟨_, x, y, rfl, I.hok.fresh (Nat.le_refl _), rfl, fun l hl => by rw [sqo_inj I hl hqx]; exact hx, fun l hl => by rw [sqo_inj I hl hqy]; exact hy⟩, ⟨z'', ?_, ⟨x1, x2, ?_⟩, ?_, ?_⟩, fun c hcm => ?_⟩
    · exact (sb.2 _ D.TIz).trans (hk _ _ D.TIz D.TITO D.TIi1 D.TIi2 hTI)
    · exact (sb.2 _ D.TOz).trans TO'
    · exact ri_at r1'.1 fun o q => (sb.2 _ i1z).trans q
    · exact ri_at r2'.1 fun o q => (sb.2 _ i2z).trans q
    · have hlt : c < s.heap.objs.size := by
        have e' : c = z ∨ c = TI ∨ c = TO ∨ c = i1 ∨ c = i2 := by simpa using hcm
        rcases e' with q | q | q | q | q
        · rw [q]; exact hzl
        · rw [q]; exact Heap.lt_size hTI
        · rw [q]; exact Heap.lt_size hTO
        · rw [q]; obtain ⟨_, e1, _⟩ := ri_obj r1; exact Heap.lt_size e1
        · rw [q]; obtain ⟨_, e2, _⟩ := ri_obj r2; exact Heap.lt_size e2
      rw [upd_ne (Nat.ne_of_lt hlt)]
      exact (hf c hcm).1
  done := by
    intro X hP hw hK hc i pins s σ H E I hf st hg
    subst hP hw hK
    obtain ⟨hz, hTI, ⟨x0, y0, hTO⟩, r1, r2⟩ := st
    obtain ⟨xs, ys, hqx, hqy, hl1, hl2, hend⟩ := hg
    obtain ⟨its, rv, p, _⟩ := sqo_row I hqx
    obtain ⟨its2, rv2, p2, _⟩ := sqo_row I hqy
    have l1 := rv.length
    have l2 := rv2.length
    have hh1 : X.A.in1.handled = none := I.ok.hd hc
    exact wpAny_pyNext_zipD2_end D (r_draws hh1 i1 a h1a its.toArray) (r_draws hh1 i2 b h2b its2.toArray) hz hTI hTO ⟨r1, p⟩ ⟨r2, p2⟩ (by simp; omega) (by simp; omega) (by simp; omega) fun h' tk hk => ⟨rfl, I.turnedL (t' := tk) (ch := [z, TI, TO, i1, i2]) (fun c o hb q =>
      hk c o (fun q' => hb (by simp [q'])) (fun q' => hb (by simp [q'])) (fun q' => hb (by simp [q'])) (fun q' => hb (by simp [q'])) q) hf⟩
  self := fun A i s Q E st h => wpAny_pyIter_zip st.1 h
def iZipG (K : PySem.W.Frag) (ta : TA) : TI := fun σ H R => ta σ H fun vs H1 => ∃ t u a b xs ys, vs = [.ref a, .ref b] ∧ SqO K t H1 a xs ∧ SqO K u H1 b ys ∧ R (ItzG K t u a b) H1
theorem pi_zipG {X : Cx} {e e2 : Expr} {ta : TA} {p pos tpos : Pos} {elts : List Expr} {kk : Nat} (hg : Gl X "zip") (hm : X.mg "zip" = none) (ha : PA X [e, e2] ta)
    (hs : starEach [e, e2] X.env = (false, eval e X.env) :: starEach [e2] X.env := by rfl) (hpl : (backTo pos (starEach [e2] X.env)).any (·.1) = false := by rfl) :
    PI X (.Tuple elts kk tpos) (.Call (.Name "zip" p) [e, e2] [] pos) (iZipG X.K ta) := by
  refine ⟨fun pins s σ H R I h => ?_⟩
  refine Call_ (ld_blt I hg hm PyProof.Rows.boot_zip (PyProof.Rows.callWith_type1 (thn (ha.run pos pins s σ H _ I h) fun us s1 ⟨vs, H1, I1, r1, q1⟩ => ?_) hs hpl))
  obtain ⟨t, u, a, b, xs, ys, ex, hqx, hqy, q⟩ := q1
  subst ex
  cases r1 with
  | cons r rr =>
    cases rr with
    | cons r' rr =>
      cases rr
      cases r
      cases r'
      have fresh5 : ∀ c, c ∈ [s1.heap.objs.size + 4, s1.heap.objs.size + 2, s1.heap.objs.size + 3, s1.heap.objs.size, s1.heap.objs.size + 1] → FpOk X pins H1 c := fun c hcm => by
        have e' : c = s1.heap.objs.size + 4 ∨ c = s1.heap.objs.size + 2 ∨ c = s1.heap.objs.size + 3 ∨ c = s1.heap.objs.size ∨ c = s1.heap.objs.size + 1 := by simpa using hcm
        have hle : s1.heap.objs.size ≤ c := by
          rcases e' with z | z | z | z | z
          · rw [z]; exact Nat.le_add_right _ _
          · rw [z]; exact Nat.le_add_right _ _
          · rw [z]; exact Nat.le_add_right _ _
          · rw [z]; exact Nat.le_refl _
          · rw [z]; exact Nat.le_add_right _ _
        exact I1.fpOk hle (I1.hok.fresh hle)
      obtain ⟨its, rv, p1, _⟩ := sqo_row I1 hqx
      obtain ⟨its2, rv2, p2, _⟩ := sqo_row I1 hqy
      have la := rs_lt p1
      have lb := rs_lt p2
      refine zip_begins2 (r_begins t a its.toArray) (r_begins u b its2.toArray) p1 p2 fun h' hz hTI hTO h1 h2 hsz hk => wpAny_pyIter_zip hz ?_
      have I2 : Inv X pins σ H1 { s1 with heap := h' } := I1.kept (t' := s1.toks) hk
      exact ⟨s1.heap.objs.size + 4, [s1.heap.objs.size + 4, s1.heap.objs.size + 2, s1.heap.objs.size + 3, s1.heap.objs.size, s1.heap.objs.size + 1], _, _, H1, rfl, I2,
        turn_zipG (zip_sep2 (N := s1.heap.objs.size) (fp1 := [a]) (fp2 := [b]) (fun c hc => by simp at hc; rw [hc]; exact la) (fun c hc => by simp at hc; rw [hc]; exact lb)) (Nat.ne_of_lt la) (Nat.ne_of_lt (Nat.lt_succ_of_lt lb)), ⟨hz, hTI, ⟨_, _, hTO⟩, ri_start h1, ri_start h2⟩, fresh5, q⟩
/-! ### enumerate of a row of any kind -/
def IteG (K : PySem.W.Frag) (t : Bool) (a : Addr) : It :=
  ⟨fun i H => ∃ (xs : List V) (x : V), SqO K t H a xs ∧ xs[i]? = some x, fun i H v H' => ∃ T x, v = .ref T ∧ H T = none ∧ H' = upd H T (.tup [.int (i : Nat), x]) ∧ ∀ xs, SqO K t H a xs → xs[i]? = some x,
    fun i H => ∃ xs : List V, SqO K t H a xs ∧ xs.length = i⟩
theorem turn_enumG {P : Program} {w : World} {K : PySem.W.Frag} {elts : List Expr} {kk : Nat} {tpos : Pos} {t : Bool} (a e it : Addr) (hai : a ≠ it) (hae : e ≠ a) :
    Turn P w K (.Tuple elts kk tpos) (IteG K t a) [e, it] e (fun i h => (∃ old, IsEnum h e it ((i : Nat) : Int) old) ∧ RI t h it a i ∧ e ≠ it) where
  mem := by simp
  obj := fun i h st b hb => by
    obtain ⟨⟨old, he⟩, r1, _⟩ := st
    have e' : b = e ∨ b = it := by simpa using hb
    rcases e' with z | z
    · rw [z]; exact ⟨_, he, fun v q => nomatch q⟩
    · rw [z]; exact ri_obj r1
  keep := fun i h h' st k => let ⟨⟨old, he⟩, hi, hne⟩ := st; ⟨⟨old, k e (by simp) _ he⟩, ri_at hi fun o q => k it (by simp) o q, hne⟩
  item := by
    intro X hP hw hK hc i pins s σ H E I hf st hg
    subst hP hw hK
    obtain ⟨⟨old, he⟩, hit, hne⟩ := st
    obtain ⟨xs, x, hq, hx⟩ := hg
    obtain ⟨its, rv, p, hz⟩ := sqo_row I hq
    obtain ⟨u, hu, ru⟩ := rv.get hx
    have hel : e < s.heap.objs.size := Heap.lt_size he
    have hil : it < s.heap.objs.size := by obtain ⟨_, q, _⟩ := ri_obj hit; exact Heap.lt_size q
    have hh1 : X.A.in1.handled = none := I.ok.hd hc
    refine wpAny_pyNext_enum_itemD (r_draws hh1 it a hai its.toArray) he ⟨hit, p⟩ (by simpa using (List.getElem?_eq_some_iff.mp hu).1) hne (fun q => by
      rcases List.mem_cons.mp q with z | z
      · exact hne z
      · exact hae (List.mem_singleton.mp z)) fun x1 h' tk P1 ho hit' hT hsz hk => ?_
    have e1 : x1 = u := by have P1 : its.toArray[i]? = some x1 := P1; simp at P1; rw [hu] at P1; exact (Option.some.inj P1).symm
    subst e1
    refine ⟨_, rfl, wpAny_letOwnedTupleGo_enum (s := { s with heap := h', toks := tk + 1 }) ho fun h'' he' sb => ?_⟩
    have hT2 : h''.get? s.heap.objs.size = some { cls := .type "tuple", data := .seq #[.int i tk, x1] } := (sb.2 _ (Nat.ne_of_gt hel)).trans hT
    have new : ObjOk X.prog X.w (upd H s.heap.objs.size (.tup [.int (i : Nat), x])) h'' s.heap.objs.size (.tup [.int (i : Nat), x]) :=
      ⟨by show 2 ≤ sizeLine; decide, [.int i tk, x1], .cons ⟨_, rfl⟩ (.cons ru .nil), ⟨_, hT2, rfl, _, rfl⟩⟩
    have I1 : Inv X pins σ (upd H s.heap.objs.size (.tup [.int (i : Nat), x])) { s with heap := h'', toks := tk + 1 } :=
      I.turnedNew (ch := [e, it]) (fun b ob hb q => (sb.2 b (fun z => hb (by simp [z]))).trans (hk b ob (fun z => hb (by simp [z])) (fun z => hb (by simp [z])) q)) hf (Nat.le_refl _) new
    refine ⟨.ref s.heap.objs.size, _, I1, rfl, ⟨_, x, rfl, I.hok.fresh (Nat.le_refl _), rfl, fun ys hy => by rw [sqo_inj I hy hq]; exact hx⟩, ⟨⟨x1, ?_⟩, ri_at hit'.1 fun o q => (sb.2 it (Ne.symm hne)).trans q, hne⟩, fun b hb => ?_⟩
    · have e1 : ((i + 1 : Nat) : Int) = (i : Int) + 1 := by omega
      rw [e1]; exact he'
    · have hb' : b < s.heap.objs.size := by
        have e' : b = e ∨ b = it := by simpa using hb
        rcases e' with z | z
        · rw [z]; exact hel
        · rw [z]; exact hil
      rw [upd_ne (Nat.ne_of_lt hb')]
      exact (hf b hb).1
  done := by
    intro X hP hw hK hc i pins s σ H E I hf st hg
    subst hP hw hK
    obtain ⟨⟨old, he⟩, hit, hne⟩ := st
    obtain ⟨xs, hq, hx⟩ := hg
    obtain ⟨its, rv, p, hz⟩ := sqo_row I hq
    obtain ⟨f0, f1, f2, f3, f4, f5⟩ := hf it (by simp)
    have hl := rv.length
    have hh1 : X.A.in1.handled = none := I.ok.hd hc
    have e0 : i = its.toArray.size := by simp; omega
    exact wpAny_pyNext_enum_endD (r_draws hh1 it a hai its.toArray) he (by rw [← e0]; exact ⟨hit, p⟩) fun h' eb => ⟨rfl, I.turned (t' := s.toks) (fun b o hb q => eb b o hb q) f0 f1 f3 f4 f5⟩
  self := fun A i s Q E st h => let ⟨⟨_, he⟩, _⟩ := st; wpAny_pyIter_enum he h
def iEnumG (K : PySem.W.Frag) (ta : TA) : TI := fun σ H R => ta σ H fun vs H1 => ∃ t a xs, vs = [.ref a] ∧ SqO K t H1 a xs ∧ R (IteG K t a) H1
theorem pi_enumG {X : Cx} {e : Expr} {ta : TA} {p pos tpos : Pos} {elts : List Expr} {kk : Nat} (hg : Gl X "enumerate") (hm : X.mg "enumerate" = none) (ha : PA X [e] ta) (hs : starEach [e] X.env = [(false, eval e X.env)] := by rfl) :
    PI X (.Tuple elts kk tpos) (.Call (.Name "enumerate" p) [e] [] pos) (iEnumG X.K ta) := by
  refine ⟨fun pins s σ H R I h => ?_⟩
  refine Call_ (ld_blt I hg hm PyProof.Rows.boot_enumerate (PyProof.Rows.callWith_type1 (thn (ha.run pos pins s σ H _ I h) fun us s1 ⟨vs, H1, I1, r1, q1⟩ => ?_) hs rfl))
  obtain ⟨t, a, xs, ex, hq, q⟩ := q1
  subst ex
  cases r1 with
  | cons r rr =>
    cases rr
    cases r
    obtain ⟨its, rv, p', hz⟩ := sqo_row I1 hq
    have la := rs_lt p'
    refine z_enum_begins (r_begins t a its.toArray) p' fun h' he hit hsz hk => wpAny_pyIter_enum he ?_
    have I2 : Inv X pins σ H1 { s1 with heap := h' } := I1.kept (t' := s1.toks) hk
    refine ⟨s1.heap.objs.size + 1, [s1.heap.objs.size + 1, s1.heap.objs.size], _, _, H1, rfl, I2, turn_enumG a (s1.heap.objs.size + 1) s1.heap.objs.size (Nat.ne_of_lt la) (Nat.ne_of_gt (Nat.lt_succ_of_lt la)), ⟨⟨.none, he⟩, ri_start hit, Nat.succ_ne_self _⟩, fun b hb => ?_, q⟩
    have e' : b = s1.heap.objs.size + 1 ∨ b = s1.heap.objs.size := by simpa using hb
    have hle : s1.heap.objs.size ≤ b := by
      rcases e' with z | z
      · rw [z]; exact Nat.le_add_right _ _
      · rw [z]; exact Nat.le_refl _
    exact I1.fpOk hle (I1.hok.fresh hle)
section
variable {X : Cx} {a b : Expr} {σ : L2.St} {F W W1 : Hp} {pos p tpos : Pos} {elts : List Expr} {kk : Nat}
theorem sqo_of {K : PySem.W.Frag} {F W H : Hp} {t : Bool} {l : Addr} {vs : List V} (w : Wd F W H) (h : F l = some (sqO t vs)) : SqO K t H l vs := by
  cases t with
  | true => exact SqT.of (w.tup h)
  | false => exact SqL.of (w.lst h)
theorem ei_enum {t : Bool} {xs : List D} (hm : X.mg "enumerate" = none) (h : EvA X [a] σ F W [.sq t xs] W1) (hg : Gl X "enumerate" := by rfl) (hs : starEach [a] X.env = [(false, eval a X.env)] := by rfl) :
    EvI X (.Tuple elts kk tpos) (.Call (.Name "enumerate" p) [a] [] pos) σ F W (enumD xs) W1 := fun H w R q =>
  tmI_of (pi_enumG hg hm pa_tm hs) (h H w _ fun v F1 H1 g r => by
    cases r with
    | cons r t' =>
    cases t'
    obtain ⟨l, vs, rfl, h1, s1, z1⟩ := r.sq_inv
    have el : (enumD xs).length = vs.length := by unfold enumD; rw [List.length_map, List.length_zipIdx, s1.length]
    refine ⟨t, l, vs, rfl, sqo_of g.st h1, q _ (fun H => SqO X.K t H l vs) (fun i H x H' => ∃ T y, x = .ref T ∧ H T = none ∧ H' = upd H T (.tup [.int (i : Nat), y]) ∧ vs[i]? = some y) F1 H1 g ?_ (fun F2 W2 H2 e w2 => sqo_of w2 (e _ _ h1)) fun i F2 W2 H2 H3 x d e w2 y hd => ?_⟩
    · rw [el]
      exact ⟨fun i H hi hq => ⟨vs, vs[i], hq, by simp [hi]⟩, fun H hq => ⟨vs, hq, rfl⟩, fun i H x H' hi hq ⟨T, y, e1, e2, e3, e4⟩ => ⟨T, y, e1, e2, e3, e4 vs hq⟩⟩
    · rw [enumD_get, Option.map_eq_some_iff] at hd
      obtain ⟨d', hd', rfl⟩ := hd
      obtain ⟨T, y, rfl, hT, rfl, hy⟩ := y
      obtain ⟨d2, hd2, r2⟩ := s1.get hy
      rw [hd'] at hd2; cases hd2
      exact ⟨_, Go.new w2 hT, Go.rep_new (t := true) w2 hT (.cons (.int _) (.cons (r2.mono e) .nil)) (by simp)⟩)
theorem ei_zipG {t u : Bool} {xs ys : List D} (hm : X.mg "zip" = none) (h : EvA X [a, b] σ F W [.sq t xs, .sq u ys] W1) (hg : Gl X "zip" := by rfl) (hs : starEach [a, b] X.env = (false, eval a X.env) :: starEach [b] X.env := by rfl) (hpl : (backTo pos (starEach [b] X.env)).any (·.1) = false := by rfl) :
    EvI X (.Tuple elts kk tpos) (.Call (.Name "zip" p) [a, b] [] pos) σ F W (zipD xs ys) W1 := fun H w R q =>
  tmI_of (pi_zipG hg hm pa_tm hs hpl) (h H w _ fun v F1 H1 g r => by
    cases r with
    | cons r t' =>
    cases t' with
    | cons r2 t' =>
    cases t'
    obtain ⟨l, vs, rfl, h1, s1, z1⟩ := r.sq_inv
    obtain ⟨l2, us, rfl, h2, s2, z2⟩ := r2.sq_inv
    have el : (zipD xs ys).length = min vs.length us.length := by unfold zipD; rw [List.length_map, List.length_zip, s1.length, s2.length]
    refine ⟨t, u, l, l2, vs, us, rfl, sqo_of g.st h1, sqo_of g.st h2, q _ (fun H => SqO X.K t H l vs ∧ SqO X.K u H l2 us) (fun i H x H' => ∃ T y z, x = .ref T ∧ H T = none ∧ H' = upd H T (.tup [y, z]) ∧ vs[i]? = some y ∧ us[i]? = some z) F1 H1 g ?_ (fun F2 W2 H2 e w2 => ⟨sqo_of w2 (e _ _ h1), sqo_of w2 (e _ _ h2)⟩) fun i F2 W2 H2 H3 x d e w2 y hd => ?_⟩
    · rw [el]
      refine ⟨fun i H hi hq => ?_, fun H hq => ⟨vs, us, hq.1, hq.2, by omega, by omega, by omega⟩, fun i H x H' hi hq ⟨T, y, z, e1, e2, e3, e4, e5⟩ => ⟨T, y, z, e1, e2, e3, e4 vs hq.1, e5 us hq.2⟩⟩
      have h1 : i < vs.length := by omega
      have h2 : i < us.length := by omega
      exact ⟨vs, us, vs[i], us[i], hq.1, hq.2, by simp [h1], by simp [h2]⟩
    · unfold zipD at hd
      rw [List.getElem?_map, Option.map_eq_some_iff] at hd
      obtain ⟨⟨da, db⟩, hd', rfl⟩ := hd
      rw [List.getElem?_zip_eq_some] at hd'
      obtain ⟨T, y, z, rfl, hT, rfl, hy, hz⟩ := y
      obtain ⟨d1, hd1, q1⟩ := s1.get hy
      obtain ⟨d2, hd2, q2⟩ := s2.get hz
      rw [hd'.1] at hd1; cases hd1
      rw [hd'.2] at hd2; cases hd2
      exact ⟨_, Go.new w2 hT, Go.rep_new (t := true) w2 hT (.cons (q1.mono e) (.cons (q2.mono e) .nil)) (by simp)⟩)
end
end Z
set_option Elab.async false
set_option linter.all false
set_option maxRecDepth 100000
set_option maxHeartbeats 1000000
namespace PySem.W
open PySem PySem.Calls PyProof.Rows Builtin
section
variable {prog : Program} {w : World} {A : Around} {E : Value → Shared → Prop} {s : Shared} {K : Frag} {x C L f : Addr} {h₀ : Heap} {m : Str → Option Value} {ox : Obj} {od : Option Obj} {name : Str} {b tb : Value}
theorem z_ifBound_B {M : Model} {id : String} {args : List Value} {Q : Option Value → Shared → Prop} (X : K.In s.heap) (I : InstAt s.heap x ox C od) (hs : findIn K (.ref C) name = some (some (.builtin id)))
    (hb : ∀ self, bindSpecial (.builtin id) self = pure (.builtin id, [self])) (h : wpAny M A (call (.builtin id) (.ref x :: args)) (fun v => Q (some v)) E s) : wpAny M A (callSpecialIfBound? (.ref x) name args) Q E s := by
  simp only [callSpecialIfBound?, bindSpecialIfBound?]
  refine wpAny_holding (wpAny_bind (wpAny_bind (wpAny_bind (I.type.here ((looks_findIn X hs).here ?_)))))
  refine wpAny_bind (wpAny_askSetting (wpAny_ite ?_))
  have fin : wpAny M A (call (.builtin id) ([.ref x] ++ args) >>= fun v => pure (some v)) Q E s := wpAny_bind (wpAny_mono h (fun v s' h' => wpAny_pure h') fun _ _ h' => h')
  split
  · exact wpAny_bind ((Looks.of_pure (hb _)).here (wpAny_pure (by exact fin)))
  · exact wpAny_tryCatch (wpAny_bind ((Looks.of_pure (hb _)).here (wpAny_pure (by exact fin))))
theorem z_check_ne {M : Model} {Q : Unit → Shared → Prop} (X : K.In s.heap) (I : InstAt s.heap x ox C od) (hm : mroIn K C (.type "object") = some true) (hq : Q () s) : wpAny M A (checkBuiltinCall "object.__ne__" ⟨.ref x :: [b], []⟩) Q E s := by
  simp only [checkBuiltinCall, PySem.F.cmpKind_ne, PySem.F.cmpSplit_ne]
  refine wpAny_bind ?_
  unfold isInstance
  refine wpAny_bind (I.type.here ((looks_mroIn X hm).here ?_))
  have ha := PySem.F.cmpArgs_ne (.ref x) b
  cases hsig : Manifest.signature? "object.__ne__" with
  | none => exact wpAny_pure hq
  | some sig =>
    simp only [argsOk, hsig] at ha
    show wpAny M A (Bind.checkArgs "object.__ne__" sig ⟨.ref x :: [b], []⟩) Q E _
    rw [ha]; exact wpAny_pure hq
theorem z_ne_bind (self : Value) : bindSpecial (.builtin "object.__ne__") self = pure (.builtin "object.__ne__", [self]) :=
  (Slot.of (T := "object") (name := "__ne__") (owner := "object") (n := "__ne__") (by rw [typeLookup_type, builtinLookup_eq_fast]; kernel_rfl) (by decide +kernel) (by decide +kernel) (by decide +kernel)
    (.inl (by decide +kernel)) (by rw [isSubtype_type]; kernel_rfl)).bind self
/-- a != b by an own __eq__, no __ne__ -/
theorem z_ne_K {Q : Value → Shared → Prop} (hu : A.units + 1 < cLine) (F : Fr h₀ L s.heap m) (X₀ : K.In h₀) (I : InstAt s.heap x ox C od) (hb : Looks (model prog w) s.heap (typeOf b) tb) (hn : notFirst K C tb = true)
    (hne : findIn K (.ref C) "__ne__" = some (some (.builtin "object.__ne__"))) (hm : mroIn K C (.type "object") = some true) (hs : findIn K (.ref C) "__eq__" = some (some (.ref f))) (hf : isFn K (.ref f) = true) (hpl : plainId "object.__ne__" = true)
    (h : wpAny (model prog w) A.in1 (call (.ref f) [.ref x, b]) (fun v s' => ∃ k, v = .bool k ∧ Q (.bool (!k)) s') E s) : wpAny (model prog w) A (richCompare .NotEq (.ref x) b) Q E s := by
  have X := X₀.keeps F.keep
  have hu1 : A.in1.units < cLine := hu
  have one : wpAny (model prog w) A (tryCompare (.ref x) "__ne__" b) (fun r s' => ∃ v, r = some v ∧ Q v s') E s := by
    unfold tryCompare
    refine wpAny_bind (z_ifBound_B X I hne z_ne_bind (wpAny_call (codeAny_call_builtin hpl PySem.F.cmpEntry_ne (z_check_ne X I hm ?_))))
    unfold Builtin.«object.__ne__»
    repeat (first
      | with_reducible refine wpAny_cRoomFor hu1 ?_
      | (refine wpAny_bind (m := callSpecialIfBound? (.ref x) (Str.ofString "__eq__") [b]) (ifBound_K X I hs hf (wpAny_mono h (fun r s' hr => by
          obtain ⟨k, rfl, hq⟩ := hr
          repeat (first
            | (refine wpAny_bind (m := truthy (.bool _)) (wpAny_truthy_bool ?_))
            | exact ⟨_, rfl, hq⟩ | exact ⟨_, rfl, wpAny_pure hq⟩ | exact wpAny_pure ⟨_, rfl, hq⟩ | exact ⟨_, rfl, wpAny_pure ⟨_, rfl, hq⟩⟩ | exact wpAny_pure ⟨_, rfl, wpAny_pure ⟨_, rfl, hq⟩⟩ | wp_step)) fun _ _ y => y)))
      | wp_step)
  unfold richCompare
  simp only [oneThing_ref]
  rw [cmpInfo_NotEq]
  refine wpAny_holding (wpAny_bind (wpAny_cRoomFor (Nat.lt_of_succ_lt hu) ?_))
  refine wpAny_bind (I.type.here (wpAny_bind (hb.here ?_)))
  dsimp only
  split
  · rename_i q
    have e : subIn K tb (.ref C) = some false := by
      rcases Bool.or_eq_true_iff.mp hn with e | e
      · rw [beq_iff_eq.mp e] at q; simp at q
      · exact beq_iff_eq.mp e
    refine wpAny_bind ((looks_subIn X e).here ?_)
    simp only [Bool.false_eq_true, if_false]
    refine wpAny_bind (wpAny_mono one (fun r s' z => ?_) fun _ _ e => e)
    obtain ⟨v, rfl, hq⟩ := z
    exact wpAny_pure hq
  · refine wpAny_bind (wpAny_pure ?_)
    simp only [Bool.false_eq_true, if_false]
    refine wpAny_bind (wpAny_mono one (fun r s' z => ?_) fun _ _ e => e)
    obtain ⟨v, rfl, hq⟩ := z
    exact wpAny_pure hq
end
end PySem.W
namespace ZBool
open PySem PyProof.Rows
open PySem.Sem (wp)
section
variable {prog : Program} {w : World}
theorem meets_bool {v : Value} : MeetsIn prog w (Builtin.«bool.__new__» ⟨[.type "bool", v], []⟩) (fun A R s => wpAny (model prog w) A.in1 (truthy v) (fun k s' => ∀ tk, R (.ok (.ret (.bool k))) { s' with toks := tk }) (fun e s' => R (.error e) s') s) :=
  MeetsIn.of_wp fun A R s hs => by
    obtain ⟨hp, g, d, tk, os⟩ := s
    have f1 := F.conv_sub_bool
    repeat (any_goals (first | assumption | (with_reducible refine wpAny_mono hs (fun k s' hk => ?_) fun _ _ y => y) | wp_step))
    all_goals first | exact ⟨_, rfl, hk _⟩ | skip
theorem call_bool {A : Around} {E : Value → Shared → Prop} {s : Shared} {v : Value} {Q : Value → Shared → Prop} (h : wpAny (model prog w) A.in1.in1 (truthy v) (fun k s' => ∀ tk, Q (.bool k) { s' with toks := tk }) E s) : wpAny (model prog w) A (call (.type "bool") [v]) Q E s :=
  callType_newIn F.called_bool F.newNe_bool (F.typeCall_bool_1 v) (F.newCall_bool_1 v) (fun obj => F.args_object_init_2 obj v) F.entry_bool_new meets_bool (wpAny_mono h (fun k s' hk tk => ⟨rfl, hk tk⟩) fun _ _ y => y)
end
end ZBool
set_option Elab.async false
set_option linter.all false
set_option maxRecDepth 100000
set_option maxHeartbeats 1000000
namespace Z
open PySem PySem.Spec PyProof.Rows L2
/-! ## own classes -/
structure ClsF (K : PySem.W.Frag) (C : Addr) : Prop where
  cls : Cls K C
  ne : PySem.W.findIn K (.ref C) "__ne__" = some (some (.builtin "object.__ne__"))
  obj : PySem.W.mroIn K C (.type "object") = some true
  ha : PySem.W.findIn K (.ref C) "__class__" = some (some (.builtin "object.__class__"))
  hn : PySem.W.specialIn K (.builtin "object.__class__") "__get__" = some (some (.builtin "getset_descriptor.__get__"))
  tk : PySem.W.takesIn K (.builtin "object.__class__") = some true
/-- a method: its def at f, what it promises -/
structure MeD (P : Program) (w : World) (K : PySem.W.Frag) (mg : Str → Option Value) (base : Heap) (k : Nat) (C : Addr) (m : Str) (ps : List Str) (rel : Rel) : Prop where
  ex : ∃ f fd, FnOk P w K mg base CX0 k f fd ps (spG rel) ∧ Meth K C m f ∧ Binds K fd ps []
section
variable {F : Hp}
theorem RepF.keys {vs : List (Str × V)} {ds : List (Str × D)} (r : RepF F vs ds) (m : Str) : ds.lookup m = none → vs.lookup m = none := by
  induction ds generalizing vs with
  | nil => intro _; cases r; rfl
  | cons p ds ih =>
    intro h
    cases r with
    | cons rv rt =>
      rw [List.lookup_cons] at h ⊢
      split at h
      · cases h
      · exact ih rt h
theorem RepF.get {vs : List (Str × V)} {ds : List (Str × D)} (r : RepF F vs ds) {m : Str} {d : D} : ds.lookup m = some d → ∃ v, vs.lookup m = some v ∧ Rep F v d := by
  induction ds generalizing vs with
  | nil => intro h; cases h
  | cons p ds ih =>
    intro h
    cases r with
    | cons rv rt =>
      rw [List.lookup_cons] at h ⊢
      split at h
      · cases h
        exact ⟨_, rfl, rv⟩
      · exact ih rt h
theorem Rep.ob_inv {v : V} {C : Addr} {ds : List (Str × D)} (r : Rep F v (.ob C ds)) : ∃ a dx vs, v = .ref a ∧ F a = some (.ins C dx vs) ∧ RepF F vs ds := by
  cases r with
  | ob h r => exact ⟨_, _, _, rfl, h, r⟩
end
section
variable {X : Cx} {e a b c o : Expr} {es : List Expr} {σ : L2.St} {F F1 W W1 W2 W3 : Hp} {d d1 d2 d3 : D} {ds : List D} {fds gds : List (Str × D)} {q q1 q2 : Bool} {pos p apos : Pos} {i j : Int} {k n : Nat} {C C2 : Addr} {A : AE} {rest : List Stmt} {m f : Str} {ps : List Str} {rel : Rel}
theorem ev_fld (h : EvS X e σ F W (.ob C fds) W1) (c : Cls X.K C) (na : NoAttr X.K C f) (hl : fds.lookup f = some d) (hb : attributeBase e f X.env (eval e X.env) = eval e X.env := by rfl) : EvS X (.Attribute e f pos) σ F W d W1 := fun H w Q q =>
  tm_of (pe_fld pe_tm hb) (h H w _ fun v F' H' g r => by
    obtain ⟨a, dx, vs, rfl, h1, r1⟩ := r.ob_inv
    obtain ⟨v, hv, rv⟩ := r1.get hl
    exact ⟨a, C, dx, vs, v, rfl, g.st.ins h1, c, na, hv, q v F' H' g rv⟩)
/-- a def runs, wherever there is room -/
theorem call_at {g : Addr} {fd : FuncData} {A' : Around} {pins : List (Addr × Obj)} {s : Shared} {H : Hp} {Q : VK} {us : List Value} {vs : List V} (Fn : FnOk X.prog X.w X.K X.mg X.base CX0 n g fd ps (spG rel)) (hb : Binds X.K fd ps []) (hr : Room n A') (hf : A'.frames = X.A.frames)
    (I : Inv X pins σ H s) (r : Vals vs us) (h : spG rel vs H Q E0) : wpAny (model X.prog X.w) A' (call (.ref g) us) (EP X pins σ Q) X.xe s := by
  have e0 : Env0 X.prog X.w X.K X.mg X.base A' X.stack s H := by
    have e := I.env0
    exact ⟨by rw [hf]; exact e.frames, e.mod, e.bs, e.bsz, e.funs, e.frf, e.hok, e.bare⟩
  have hl : us.length = ps.length := by rw [← r.length]; exact Fn.len _ _ _ _ h
  have hb' := hb s us I.kIn (by simpa using hl)
  rw [List.append_nil] at hb'
  refine wpAny_call (codeAny_mono (Fn.run A' X.stack s H ⟨us, []⟩ us vs Q E0 hr e0 hb' r h) fun r s' hq => ?_)
  cases r with
  | error e => exact (show False from hq).elim
  | ok fl =>
    cases fl with
    | ret u => exact I.after hq
    | next => exact False.elim hq
    | brk => exact False.elim hq
    | cont => exact False.elim hq
/-- o.m(e, ..) -/
theorem ev_meth (h : EvS X o σ F W (.ob C fds) W1) (cl : ClsF X.K C) (Me : MeD X.prog X.w X.K X.mg X.base k C m ps rel) (hr : Room k X.A) (hm : fds.lookup m = none) (ha : EvA X (e :: es) σ F W1 ds W2) (hrel : ∀ F1, Same F F1 → rel (.ob C fds :: ds) F1 W2 d W3)
    {pl : Sem Bool} (hst : starEach (e :: es) X.env = (false, eval e X.env) :: starEach es X.env := by rfl) (hpl : (backTo pos (starEach es X.env)).any (·.1) = false := by rfl)
    (ht : eval (.Call (.Attribute o m apos) (e :: es) [] pos) X.env = (do
      let ov ← eval o X.env
      standAt apos.atName
      let (f, first) ← holding [ov] (getMethod ov m pl)
      callWith pos f first (backTo pos (starEach (e :: es) X.env)) (backToKw pos (keywordEach [] X.env))) := by rfl) : EvS X (.Call (.Attribute o m apos) (e :: es) [] pos) σ F W d W3 := fun H w Q q => by
  obtain ⟨f, fd, hF, hM, hb⟩ := Me.ex
  refine tm_of (pe_meth (E := E0) pe_tm cl.cls hM hF hr hb .nil pass0 pa_tm hst hpl ht) (h H w _ fun v F1 H1 g r => ?_)
  obtain ⟨a, dx, vs, rfl, h1, r1⟩ := r.ob_inv
  refine ⟨a, dx, vs, rfl, g.st.ins h1, r1.keys m hm, ha.mono g.ex H1 g.st _ fun us F2 H2 g2 r2 => ?_⟩
  show spG rel (.ref a :: (us ++ [])) H2 Q _
  rw [List.append_nil]
  exact ⟨F2, W2, _, d, W3, g2.st, .cons (r.mono g2.ex) r2, hrel F2 (g.trans g2).ex, fun v F' H' g3 r3 => q v F' H' ((g.trans g2).trans g3) r3⟩
theorem ev_meth0 (h : EvS X o σ F W (.ob C fds) W1) (cl : ClsF X.K C) (Me : MeD X.prog X.w X.K X.mg X.base k C m ps rel) (hr : Room k X.A) (hm : fds.lookup m = none) (hrel : ∀ F1, Same F F1 → rel [.ob C fds] F1 W1 d W3)
    {pl : Sem Bool} (ht : eval (.Call (.Attribute o m apos) [] [] pos) X.env = (do
      let ov ← eval o X.env
      standAt apos.atName
      let (f, first) ← holding [ov] (getMethod ov m pl)
      callWith pos f first (backTo pos (starEach [] X.env)) (backToKw pos (keywordEach [] X.env))) := by rfl) : EvS X (.Call (.Attribute o m apos) [] [] pos) σ F W d W3 := fun H w Q q => by
  obtain ⟨f, fd, hF, hM, hb⟩ := Me.ex
  refine tm_of (pe_meth0 (E := E0) pe_tm cl.cls hM hF hr hb .nil pass0 ht) (h H w _ fun v F1 H1 g r => ?_)
  obtain ⟨a, dx, vs, rfl, h1, r1⟩ := r.ob_inv
  refine ⟨a, dx, vs, rfl, g.st.ins h1, r1.keys m hm, ?_⟩
  exact ⟨F1, W1, _, d, W3, g.st, .cons r .nil, hrel F1 g.ex, fun v F' H' g3 r3 => q v F' H' (g.trans g3) r3⟩
/-! ### made -/
/-- what an __init__ makes of what it is handed: the attributes -/
def spI (C : Addr) (rel : List D → List (Str × D) → Prop) : Sp := fun vs H Q _ => ∃ F W x dx ds fds vs', vs = .ref x :: vs' ∧ Wd F W H ∧ W x = some (.ins C dx []) ∧ Reps F vs' ds ∧ rel ds fds ∧
  ∀ fvs F' H', Go F W H F' (upd W x (.ins C dx fvs)) H' → RepF F' fvs fds → Q .non H'
structure InD (P : Program) (w : World) (K : PySem.W.Frag) (mg : Str → Option Value) (base : Heap) (k : Nat) (x : Str) (C : Addr) (ps : List Str) (rel : List D → List (Str × D) → Prop) : Prop where
  ex : ∃ f fd, FnOk P w K mg base CX0 k f fd ps (spI C rel) ∧ Mk K C f ∧ mg x = some (.ref C) ∧ Binds K fd ps []
theorem Go.made {H : Hp} {C x dx : Addr} (w : Wd F W H) (hx : H x = none) (hd : H dx = none) (ne : dx ≠ x) : Go F W H F (upd (upd W dx (.own x)) x (.ins C dx [])) (upd (upd H dx (.own x)) x (.ins C dx [])) := by
  have g1 := Go.own w (o := .own x) hd
  exact g1.trans (Go.own g1.st (by rw [upd_ne (Ne.symm ne)]; exact hx))
theorem ev_make {x : Str} {reli : List D → List (Str × D) → Prop} (In : InD X.prog X.w X.K X.mg X.base k x C ps reli) (hr : Room (k + 1) X.A) (ha : EvA X (e :: es) σ F W ds W1) (hrel : reli ds fds) (hg : Gl X x := by rfl) (hdb : (x == ("__debug__" : Str)) = false := by decide)
    (he : starEach (e :: es) X.env = (false, eval e X.env) :: starEach es X.env := by rfl) (hpl : (backTo pos (starEach es X.env)).any (·.1) = false := by rfl) : EvS X (.Call (.Name x p) (e :: es) [] pos) σ F W (.ob C fds) W1 := fun H w Q q => by
  obtain ⟨f, fd, hF, hM, hm, hb⟩ := In.ex
  refine tm_of (pe_make (E := E0) hM hF hr hg hm hb .nil pass0 pa_tm hdb he hpl) (ha H w _ fun vs F1 H1 g r => fun a dx hx hd ne => ?_)
  have gm := Go.made (C := C) g.st hx hd ne
  refine ⟨F1, _, a, dx, ds, fds, vs, by rw [List.append_nil], gm.st, upd_same, r, hrel, fun fvs F' H' g2 rf => ⟨rfl, ?_⟩⟩
  rw [upd_upd] at g2
  have f1 := Go.freeze g2.st (p := a) upd_same
  have w1x := (g.st.fresh hx).2
  have e1 : del (upd (upd W1 dx (.own a)) a (.ins C dx fvs)) a = upd W1 dx (.own a) := del_upd (by rw [upd_ne (Ne.symm ne)]; exact w1x)
  rw [e1] at f1
  have f2 := Go.freeze f1.st (p := dx) upd_same
  rw [del_upd (g.st.fresh hd).2] at f2
  refine q _ _ _ (g.trans (gm.trans (g2.trans (f1.trans f2)))) (.ob (C := C) (dx := dx) ((f2.ex) _ _ upd_same) (rf.mono (f1.ex.trans f2.ex)))
theorem ev_make0 {x : Str} {reli : List D → List (Str × D) → Prop} (In : InD X.prog X.w X.K X.mg X.base k x C ps reli) (hr : Room (k + 1) X.A) (hrel : reli [] fds) (hg : Gl X x := by rfl) (hdb : (x == ("__debug__" : Str)) = false := by decide) : EvS X (.Call (.Name x p) [] [] pos) σ F W (.ob C fds) W := fun H w Q q => by
  obtain ⟨f, fd, hF, hM, hm, hb⟩ := In.ex
  refine tm_of (pe_make0 (E := E0) hM hF hr hg hm hb .nil pass0 hdb) (fun a dx hx hd ne => ?_)
  have gm := Go.made (C := C) w hx hd ne
  refine ⟨F, _, a, dx, [], fds, [], rfl, gm.st, upd_same, .nil, hrel, fun fvs F' H' g2 rf => ⟨rfl, ?_⟩⟩
  rw [upd_upd] at g2
  have f1 := Go.freeze g2.st (p := a) upd_same
  have w1x := (w.fresh hx).2
  have e1 : del (upd (upd W dx (.own a)) a (.ins C dx fvs)) a = upd W dx (.own a) := del_upd (by rw [upd_ne (Ne.symm ne)]; exact w1x)
  rw [e1] at f1
  have f2 := Go.freeze f1.st (p := dx) upd_same
  rw [del_upd (w.fresh hd).2] at f2
  exact q _ _ _ (gm.trans (g2.trans (f1.trans f2))) (.ob (C := C) (dx := dx) ((f2.ex) _ _ upd_same) (rf.mono (f1.ex.trans f2.ex)))
/-- self.f = e, self owned -/
theorem bl_fld {x dx : Addr} {fvs : List (Str × V)} {pos' : Pos} (h : EvS X e σ F W d W1) (ho : EvS X o σ F W1 (.ow x) W1) (hw : W1 x = some (.ins C dx fvs)) (c : Cls X.K C) (na : NoAttr X.K C f) (hz : fvs.length < 1000)
    (k : ∀ v F1, Same F F1 → Rep F1 v d → BlkS X rest σ F1 (upd W1 x (.ins C dx (putF f v fvs))) A) (hs : swapsWith e (some (.Attribute o f pos')) pos.line X.env = pure false := by rfl) : BlkS X (.Assign [.Attribute o f pos'] e pos :: rest) σ F W A := fun H w E ok =>
  tmB_of (pss_cons (ps_fld pe_tm pe_tm hs) pss_tm) (h H w _ fun v F1 H1 g r => (ho.mono g.ex).then g fun v2 F2 H2 g2 g02 r2 => by
    cases r2
    refine ⟨x, C, dx, fvs, rfl, g2.st.w x _ hw, c, na, hz, ?_⟩
    exact (k v F2 g02.ex (r.mono g2.ex)).run ok (g02.trans (Go.put g2.st hw)))
theorem init_ok {P : Program} {w : World} {K : PySem.W.Frag} {mg : Str → Option Value} {base : Heap} {qual : Str} {st : Stmt} {f : Addr} {fd : FuncData} {N ps : List Str} {k : Nat} {reli : List D → List (Str × D) → Prop} (Fu : Fun K "__init__" qual st f fd) (S : FnScope N ps (defScope st)) (hl : ∀ ds fds, reli ds fds → ds.length + 1 = ps.length)
    (hb : ∀ (cdv : Value) (A : Around) (outer : List Env) (s : Shared) (H : Hp) (E : XK), Room k (A.deeper (envOfC qual (defScope st) s.heap.objs.size f cdv)) → ∀ ds fds W x dx vs F, reli ds fds → Reps F vs ds → W x = some (.ins C dx []) →
      BlkS (cxOf CX0 P w K mg base N qual (defScope st) f cdv A outer s H E).nox (defBody st) (start N (.ref x :: vs)) F W { nx := fun _ F2 W2 => ∃ fvs, W2 = upd W x (.ins C dx fvs) ∧ RepF F2 fvs fds, rt := fun _ _ => False }) :
    FnOk P w K mg base CX0 (k + 1) f fd ps (spI C reli) :=
  Fu.ok S (fun vs H Q E h => by
    obtain ⟨F, W, x, dx, ds, fds, vs', rfl, hw, hx, hr, hrel, _⟩ := h
    rw [List.length_cons, hr.length]; exact hl _ _ hrel) fun cdv A outer s H vs Q E hr h => by
    obtain ⟨F, W, x, dx, ds, fds, vs', rfl, hw, hx, hv, hrel, hq⟩ := h
    exact ⟨_, pss_tm, hb cdv A outer s H E hr ds fds W x dx vs' F hrel hv hx H hw _ ⟨fun σ' F' W2 H' g ⟨fvs, e1, rf⟩ => by
      subst e1; exact hq fvs F' H' g rf, fun d' v F' W2 H' g r z => z.elim, fun σ' F' W2 H' _ k => k.elim, fun σ' F' W2 H' _ k => k.elim⟩⟩
/-! ### truth, ==, != , isinstance -/
theorem ins_at {pins : List (Addr × Obj)} {s : Shared} {H : Hp} {a dx : Addr} {fs : List (Str × V)} (I : Inv X pins σ H s) (h : H a = some (.ins C dx fs)) : ∃ od, PySem.W.InstAt s.heap a (PySem.W.instObj C dx) C (some od) := by
  obtain ⟨mA, O, _⟩ := ins_get I.hok h
  obtain ⟨od, J, _⟩ := O.look
  exact ⟨od, J⟩
theorem run_bool {pins : List (Addr × Obj)} {s : Shared} {H : Hp} {A' : Around} {a : Addr} {Q : Bool → Shared → Prop} (Me : MeD X.prog X.w X.K X.mg X.base k C "__bool__" ps rel) (hr : Room k A') (hf : A'.frames = X.A.frames) (hrel : rel [.ob C fds] F W (.bl q) W1)
    (I : Inv X pins σ H s) (w : Wd F W H) (r : Rep F (.ref a) (.ob C fds)) (hQ : ∀ F' H' s', Go F W H F' W1 H' → Inv X pins σ H' s' → Q q s') : wpAny (model X.prog X.w) A' (truthy (.ref a)) Q X.xe s := by
  obtain ⟨g, fd, hF, hM, hb⟩ := Me.ex
  obtain ⟨a', dx, vs, e, h1, r1⟩ := id r.ob_inv
  cases e
  obtain ⟨od, J⟩ := ins_at I (w.ins h1)
  obtain ⟨m, hFr⟩ := I.fr
  refine PySem.W.truthy_K hFr I.ok.mod.kin J hM.at_ hM.fn (thn (call_at hF hb hr hf I (vs := [.ref a]) (Q := fun v H' => ∃ F', Go F W H F' W1 H' ∧ v = .bl q) (.cons rfl .nil) ?_) fun u s' ⟨v, H', I', ru, F', g', ev⟩ => ?_)
  · exact ⟨F, W, _, _, W1, w, .cons r .nil, hrel, fun v F' H' g' r' => ⟨F', g', by cases r'; rfl⟩⟩
  · subst ev
    cases ru
    exact hQ F' H' s' g' I'
theorem et_obj (h : EvS X e σ F W (.ob C fds) W1) (Me : MeD X.prog X.w X.K X.mg X.base k C "__bool__" ps rel) (hr : Room k X.A) (hrel : ∀ F1, Same F F1 → rel [.ob C fds] F1 W1 (.bl q) W2)
    (he : ∀ whole, isTrue e X.env whole = (do let v ← whole; standAt e.pos; holding [v] (truthy v)) := by intro _; rfl) : EvT X e σ F W q W2 := fun H w Q k' pins s I =>
  isTrue_plain (thn (h H w (fun v H' => ∃ F', Go F W H F' W1 H' ∧ Rep F' v (.ob C fds)) (fun v F' H' g r => ⟨F', g, r⟩) pins s I) fun v s1 ⟨x, H1, I1, r1, F', g, r⟩ => by
    obtain ⟨a, dx, vs, rfl, h1, r2⟩ := id r.ob_inv
    cases r1
    exact run_bool Me hr rfl (hrel F' g.ex) I1 g.st r fun F2 H2 s' g2 I2 => ⟨H2, I2, k' F2 H2 (g.trans g2)⟩) (he _)
theorem ev_boolO (hm : X.mg "bool" = none) (h : EvA X [e] σ F W [.ob C fds] W1) (Me : MeD X.prog X.w X.K X.mg X.base k C "__bool__" ps rel) (hr : Room (k + 2) X.A) (hrel : ∀ F1, Same F F1 → rel [.ob C fds] F1 W1 (.bl q) W2) (hv : bootBuiltins "bool" = some (.type "bool")) (hg : Gl X "bool" := by rfl)
    (he : starEach [e] X.env = (false, eval e X.env) :: starEach [] X.env := by rfl) : EvS X (.Call (.Name "bool" p) [e] [] pos) σ F W (.bl q) W2 := fun H w Q k' =>
  tm_of (pe_callTy (r := fun xs H Q => ∃ F W a, xs = [.ref a] ∧ Wd F W H ∧ Rep F (.ref a) (.ob C fds) ∧ rel [.ob C fds] F W (.bl q) W2 ∧ ∀ F' H', Go F W H F' W2 H' → Q (.bl q) H')
    (fun pins s σ H xs us Q I r h => by
      obtain ⟨F, W, a, rfl, w, rr, hre, hq⟩ := h
      obtain rfl := Vals.ref1 r
      exact ZBool.call_bool (run_bool Me hr.in1.in1 rfl hre I w rr fun F' H' s' g I' => fun tk => ⟨.bl q, H', I'.tok tk, rfl, hq F' H' g⟩)) hg hm hv pa_tm (by decide) (by decide) he rfl) (h H w _ fun vs F1 H1 g r => by
    cases r with
    | cons r t =>
    cases t
    obtain ⟨a, dx, vs, rfl, h1, r2⟩ := id r.ob_inv
    exact ⟨F1, W1, a, rfl, g.st, r, hrel F1 g.ex, fun F' H' g2 => k' _ F' H' (g.trans g2) (.bl _)⟩)
theorem cm_eqO (cl : ClsF X.K C) (Me : MeD X.prog X.w X.K X.mg X.base k C "__eq__" ps rel) (hr : Room k X.A) (hrel : ∀ F1, Same F F1 → rel [.ob C fds, .ob C2 gds] F1 W (.bl q) W) (hnf : PySem.W.notFirst X.K C (.ref C2) = true) : CmpR X .Eq F W (.ob C fds) (.ob C2 gds) q := by
  obtain ⟨g, fd, hF, hM, hb⟩ := Me.ex
  refine ⟨fun x y H Q => ∃ F W a b, x = .ref a ∧ y = .ref b ∧ Wd F W H ∧ Rep F (.ref a) (.ob C fds) ∧ Rep F (.ref b) (.ob C2 gds) ∧ rel [.ob C fds, .ob C2 gds] F W (.bl q) W ∧ ∀ F' H', Go F W H F' W H' → Q (.bl q) H', ?_, ?_⟩
  · intro pins s σ H x y v u Q I rx ry h
    obtain ⟨F, W, a, b, rfl, rfl, w, r1, r2, hre, hq⟩ := h
    cases rx; cases ry
    obtain ⟨a', dx, vs, e, h1, _⟩ := id r1.ob_inv
    cases e
    obtain ⟨b', dy, ws, e, h2, _⟩ := id r2.ob_inv
    cases e
    obtain ⟨od, J⟩ := ins_at I (w.ins h1)
    obtain ⟨od2, J2⟩ := ins_at I (w.ins h2)
    obtain ⟨m, hFr⟩ := I.fr
    show wpAny (model X.prog X.w) X.A (richCompare .Eq (.ref a) (.ref b)) (EP X pins σ Q) X.xe s
    refine PySem.W.cmp_K (op := .Eq) (tb := .ref C2) hr.units0 hFr I.ok.mod.kin J J2.type hnf hM.at_ hM.fn (thn (call_at hF hb hr rfl I (vs := [.ref a, .ref b]) (Q := fun v H' => ∃ F', Go F W H F' W H' ∧ v = .bl q) (.cons rfl (.cons rfl .nil)) ?_) fun u s' ⟨v, H', I', ru, F', g', ev⟩ => ?_)
    · exact ⟨F, W, _, _, W, w, .cons r1 (.cons r2 .nil), hre, fun v F' H' g' r' => ⟨F', g', by cases r'; rfl⟩⟩
    · subst ev
      cases ru
      exact ⟨.bl q, H', I', rfl, hq F' H' g'⟩
  · intro v1 v2 F1 H1 e r1 r2 w Q hq
    obtain ⟨a, dx, vs, rfl, h1, _⟩ := id r1.ob_inv
    obtain ⟨b, dy, ws, rfl, h2, _⟩ := id r2.ob_inv
    exact ⟨F1, W, a, b, rfl, rfl, w, r1, r2, hrel F1 e, fun F' H' g => hq _ F' H' g (.bl _)⟩
theorem cm_neO (cl : ClsF X.K C) (Me : MeD X.prog X.w X.K X.mg X.base k C "__eq__" ps rel) (hr : Room (k + 1) X.A) (hrel : ∀ F1, Same F F1 → rel [.ob C fds, .ob C2 gds] F1 W (.bl q) W) (hnf : PySem.W.notFirst X.K C (.ref C2) = true) : CmpR X .NotEq F W (.ob C fds) (.ob C2 gds) (!q) := by
  obtain ⟨g, fd, hF, hM, hb⟩ := Me.ex
  refine ⟨fun x y H Q => ∃ F W a b, x = .ref a ∧ y = .ref b ∧ Wd F W H ∧ Rep F (.ref a) (.ob C fds) ∧ Rep F (.ref b) (.ob C2 gds) ∧ rel [.ob C fds, .ob C2 gds] F W (.bl q) W ∧ ∀ F' H', Go F W H F' W H' → Q (.bl (!q)) H', ?_, ?_⟩
  · intro pins s σ H x y v u Q I rx ry h
    obtain ⟨F, W, a, b, rfl, rfl, w, r1, r2, hre, hq⟩ := h
    cases rx; cases ry
    obtain ⟨a', dx, vs, e, h1, _⟩ := id r1.ob_inv
    cases e
    obtain ⟨b', dy, ws, e, h2, _⟩ := id r2.ob_inv
    cases e
    obtain ⟨od, J⟩ := ins_at I (w.ins h1)
    obtain ⟨od2, J2⟩ := ins_at I (w.ins h2)
    obtain ⟨m, hFr⟩ := I.fr
    have hu := hr.units
    show wpAny (model X.prog X.w) X.A (richCompare .NotEq (.ref a) (.ref b)) (EP X pins σ Q) X.xe s
    refine PySem.W.z_ne_K (tb := .ref C2) (by omega) hFr I.ok.mod.kin J J2.type hnf cl.ne cl.obj hM.at_ hM.fn (by decide +kernel) (thn (call_at hF hb hr.in1 rfl I (vs := [.ref a, .ref b]) (Q := fun v H' => ∃ F', Go F W H F' W H' ∧ v = .bl q) (.cons rfl (.cons rfl .nil)) ?_) fun u s' ⟨v, H', I', ru, F', g', ev⟩ => ?_)
    · exact ⟨F, W, _, _, W, w, .cons r1 (.cons r2 .nil), hre, fun v F' H' g' r' => ⟨F', g', by cases r'; rfl⟩⟩
    · subst ev
      cases ru
      exact ⟨q, rfl, .bl (!q), H', I', rfl, hq F' H' g'⟩
  · intro v1 v2 F1 H1 e r1 r2 w Q hq
    obtain ⟨a, dx, vs, rfl, h1, _⟩ := id r1.ob_inv
    obtain ⟨b, dy, ws, rfl, h2, _⟩ := id r2.ob_inv
    exact ⟨F1, W, a, b, rfl, rfl, w, r1, r2, hrel F1 e, fun F' H' g => hq _ F' H' g (.bl _)⟩
/-- isinstance(x, an own class) -/
theorem ev_isiO {y : Str} {p2 : Pos} (hm : X.mg "isinstance" = none) (hm2 : X.mg y = some (.ref C2)) (ha : EvS X e σ F W (.ob C fds) W1) (cl : ClsF X.K C) (hk : PySem.W.kitOne X.K (.ref C) (.ref C2) = some q) (hg : Gl X "isinstance" := by rfl) (hg2 : Gl X y := by rfl)
    (hdb : (y == ("__debug__" : Str)) = false := by decide) (he : starEach [e, .Name y p2] X.env = (false, eval e X.env) :: starEach [.Name y p2] X.env := by rfl) (hpl : (backTo pos (starEach [.Name y p2] X.env)).any (·.1) = false := by rfl) :
    EvS X (.Call (.Name "isinstance" p) [e, .Name y p2] [] pos) σ F W (.bl q) W1 := fun H w Q k =>
  tm_of (pe_callB call_isi hg hm (by decide +kernel) (pa_cons pe_tm (pa_cons (pe_glob (v := .ref C2) hg2 hm2 rfl hdb) pa_nil) he) (by decide) (by decide) he hpl) (ha H w _ fun v F1 H1 g r => by
    obtain ⟨a, dx, vs, rfl, h1, _⟩ := id r.ob_inv
    exact ⟨.ref a, .ref C2, .ref C, .ref C2, q, rfl, .own C2, .base (.ins (g.st.ins h1) cl.cls cl.ha cl.hn cl.tk cl.obj), hk, k _ F1 H1 g (.bl _)⟩)
end
end Z
set_option Elab.async false
set_option linter.all false
set_option maxRecDepth 100000
set_option maxHeartbeats 1000000
namespace Z
open PySem PySem.Spec PyProof.Rows L2
section
variable {X : Cx} {e a b c o tg iter elt : Expr} {es ifs : List Expr} {σ : L2.St} {F F1 W W1 W2 W3 : Hp} {d d1 d2 d3 : D} {ds : List D} {q q1 q2 : Bool} {pos p p2 apos : Pos} {i j : Int} {k n : Nat} {A : AE} {rest body : List Stmt}
/-! ### sorted, sets -/
def sortI (ns : List Int) : List Int := ns.mergeSort fun x y => decide (x ≤ y)
theorem cl_sortedI {ns : List Int} : CalR X (.builtin "sorted") F W [eR false D.int ns] (eR false D.int (sortI ns)) := ⟨_, cr_sortedI, fun vs F1 H1 _ r w Q q => by
  cases r with
  | cons r t =>
    cases t
    obtain ⟨l, rfl, h1, z⟩ := rep_ints r
    refine ⟨l, ns, rfl, SqL.of (w.lst h1), fun ns' p hp hs hn => ?_⟩
    have e : ns' = sortI ns := PySem.W.os_sorted_mergeSort hp hs
    subst e
    exact q _ _ _ (Go.new w hn) (.sq (t := false) upd_same (Reps.of_ints _) (by rw [List.length_map, hp.length_eq]; exact z))⟩
theorem len_of_nodup {α : Type} [DecidableEq α] : ∀ {l m : List α}, l.Nodup → (∀ x, x ∈ l → x ∈ m) → l.length ≤ m.length
  | [], _, _, _ => Nat.zero_le _
  | x :: l, m, hn, h => by
    have hx : x ∈ m := h x List.mem_cons_self
    have h2 := List.nodup_cons.mp hn
    have := len_of_nodup (l := l) (m := m.erase x) h2.2 (fun y hy => by
      have hne : y ≠ x := fun e => h2.1 (e ▸ hy)
      exact (List.mem_erase_of_ne hne).mpr (h y (List.mem_cons_of_mem _ hy)))
    rw [List.length_erase_of_mem hx] at this
    have hp : 0 < m.length := List.length_pos_of_mem hx
    simp only [List.length_cons]
    omega
def tLenSetG (K : PySem.W.Frag) (ta : TE) : TE := fun σ H Q => ta σ H fun x H1 => ∃ (t : Bool) (l : Addr) (ns : List Int), x = .ref l ∧ SqO K t H1 l (ns.map V.int) ∧ ns.Nodup ∧ ns.length ≤ 4000 ∧ Q (.int (ns.length : Nat)) H1
theorem pe_lenSetG {q' : Pos} (hg : Gl X "len") (hm : X.mg "len" = none) (hg2 : Gl X "set") (hm2 : X.mg "set" = none) {ta : TE} (ha : PE X a ta) (hc : X.calm = true := by rfl)
    (na : starEach [a] X.env = (false, eval a X.env) :: starEach [] X.env := by rfl) : PE X (.Call (.Name "len" p) [.Call (.Name "set" p2) [a] [] q'] [] pos) (tLenSetG X.K ta) := by
  refine ⟨fun pins s σ H Q I h => ?_⟩
  refine Call_ (ld_blt I hg hm PySem.boot_len ?_)
  refine PyProof.Rows.callWith_builtin1 (PyProof.Rows.args_cons ?_ rfl) rfl rfl
  refine Call_ (ld_blt I hg2 hm2 PyProof.Rows.boot_set ?_)
  refine PyProof.Rows.callWith_type1 (PyProof.Rows.args_cons (thn (ha.run pins s σ H _ I h) fun v s1 ⟨x, H1, I1, r1, q1⟩ => PyProof.Rows.args_nil ?_) na) na rfl
  obtain ⟨t, l, ns, rfl, hq, hnd, hl, q1⟩ := q1
  cases r1
  cases t with
  | false =>
    obtain ⟨its, r, pl, hz⟩ := I1.list hq
    have hlen : its.toArray.size = ns.length := by rw [List.size_toArray, ← r.length, List.length_map]
    refine call_set_list (I1.ok.hd hc) pl.isList (by simpa using RZ.intsAre_vals r) (by rw [hlen]; unfold scanBound; omega) fun h' tk hS hk => ?_
    refine PyProof.Rows.args_nil ?_
    rw [hlen, RZ.firstMet_nodup hnd ns.length (Nat.le_refl _), List.take_length] at hS
    obtain ⟨o, es, ep, t, ho, hex, hd, _, _, _, hf, hn⟩ := hS
    have I2 : Inv X pins σ H1 { s1 with heap := h', toks := tk } := I1.kept fun b o e => hk b o (Heap.lt_size e) e
    exact call_len_set ho hex hd hf (by rw [hn] <;> omega) ⟨.int ns.length, H1, I2.tok _, ⟨_, by rw [hn]⟩, q1⟩
  | true =>
    obtain ⟨its, r, pl, hz⟩ := I1.tuple hq
    have hi := RZ.intsAre_vals r
    refine call_set_tupI ns (I1.ok.hd hc) (show s1.heap.IsTuple l its.toArray from pl) (by simpa using hi) (by unfold scanBound; omega) fun h' tk c hS _ hk => ?_
    refine PyProof.Rows.args_nil ?_
    obtain ⟨o, es, ep, t, ho, hex, hd, hgd, hnd2, hmem, _, hf, hn, _⟩ := hS
    have I2 : Inv X pins σ H1 { s1 with heap := h', toks := tk } := I1.kept fun b o e => hk b o e
    have e1 : es.size = ns.length := by
      have a1 := len_of_nodup hnd2 (m := ns) fun x hx => of_decide_eq_true ((hmem x).mpr hx)
      have a2 := len_of_nodup hnd (m := es.toList.map keyOf) fun x hx => (hmem x).mp (decide_eq_true hx)
      rw [List.length_map, Array.length_toList] at a1 a2
      exact Nat.le_antisymm a1 a2
    exact call_len_set ho hex hd hf (by rw [e1]; omega) ⟨.int ns.length, H1, I2.tok _, ⟨_, by rw [e1]⟩, q1⟩
theorem ev_lenset {t : Bool} {ns : List Int} {q' : Pos} (hm : X.mg "len" = none) (hm2 : X.mg "set" = none) (h : EvS X a σ F W (eR t D.int ns) W1) (hnd : ns.Nodup) (hz : ns.length ≤ 4000) (hg : Gl X "len" := by rfl) (hg2 : Gl X "set" := by rfl) (hc : X.calm = true := by rfl)
    (na : starEach [a] X.env = (false, eval a X.env) :: starEach [] X.env := by rfl) : EvS X (.Call (.Name "len" p) [.Call (.Name "set" p2) [a] [] q'] [] pos) σ F W (.int ns.length) W1 := fun H w Q q =>
  tm_of (pe_lenSetG hg hm hg2 hm2 pe_tm hc na) (h H w _ fun v F1 H1 g r => by
    obtain ⟨l, rfl, h1, z⟩ := rep_ints r
    exact ⟨t, l, ns, rfl, sqo_of g.st h1, hnd, hz, q _ F1 H1 g (.int _)⟩)
/-! ### the script, that nobody writes -/
theorem Rep.fz_inv {v : V} {K : PySem.W.Frag} (r : Rep F v (.fz K ds)) : ∃ a vs, v = .ref a ∧ ((∃ o, F a = some (.frz o (.lst vs))) ∨ SqK K a vs) ∧ Reps F vs ds ∧ ds.length ≤ 100000 := by
  cases r with
  | fz h r z => exact ⟨_, _, rfl, h, r, z⟩
theorem Rep.fz_sq {v : V} {K : PySem.W.Frag} {H : Hp} (w : Wd F W H) (r : Rep F v (.fz K ds)) : ∃ a vs, v = .ref a ∧ SqL K H a vs ∧ Reps F vs ds ∧ ds.length ≤ 100000 := by
  obtain ⟨a, vs, e, h, r, z⟩ := r.fz_inv
  refine ⟨a, vs, e, ?_, r, z⟩
  rcases h with ⟨o, h⟩ | h
  · exact w.fzl h
  · exact .inr h
theorem Rep.fz_dp {v : V} {K : PySem.W.Frag} {H : Hp} (w : Wd F W H) (r : Rep F v (.fz K ds)) (h : D.pls ds = true) : Dp K H v (.list (D.pds ds)) := by
  obtain ⟨a, vs, rfl, h1, s1, z1⟩ := r.fz_sq w
  exact .lst h1 (Reps.dp w s1 h)
theorem cl_lenZ : CalR X (.builtin "len") F W [.fz X.K ds] (.int ds.length) := ⟨_, call_len_seq, fun vs F1 H1 _ r w Q q => by
  cases r with
  | cons r t =>
    cases t
    obtain ⟨l, us, rfl, h1, s1, z1⟩ := r.fz_sq w
    exact ⟨l, us, rfl, .inl h1, by rw [s1.length]; exact q _ F1 H1 (Go.refl w) (.int _)⟩⟩
theorem ev_ixZ (ha : EvS X a σ F W (.fz X.K ds) W1) (hb : EvS X b σ F W1 (.int i) W2) (hx : atI ds i = some d) (hs : ∀ v i, subscripted b false v i = operate [v, i] (getItem v i) := by intro _ _; rfl) : EvS X (.Subscript a b pos) σ F W d W2 := fun H w Q q =>
  tm_of (pe_ix ix_list pe_tm pe_tm hs) (ha H w _ fun v F1 H1 g r => (hb.mono g.ex).then g fun v2 F2 H2 g2 g02 r2 => by
    obtain ⟨l, us, rfl, h1, s1, z1⟩ := (r.mono g2.ex).fz_sq g02.st
    cases r2
    obtain ⟨v, hv, rv⟩ := atI_rep s1 hx
    exact ⟨l, us, i, v, rfl, rfl, h1, hv, q v F2 H2 g02 rv⟩)
/-! ### owned lists -/
theorem ev_ixW {l : Addr} {vs : List V} {v : V} (ha : EvS X a σ F W (.ow l) W1) (hb : EvS X b σ F W1 (.int i) W2) (hw : W2 l = some (.lst vs)) (hx : atI vs i = some v) (r : Rep F v d) (hs : ∀ v i, subscripted b false v i = operate [v, i] (getItem v i) := by intro _ _; rfl) : EvS X (.Subscript a b pos) σ F W d W2 := fun H w Q q =>
  tm_of (pe_ix ix_list pe_tm pe_tm hs) (ha H w _ fun v F1 H1 g r1 => (hb.mono g.ex).then g fun v2 F2 H2 g2 g02 r2 => by
    cases r1; cases r2
    exact ⟨l, vs, i, _, rfl, rfl, SqL.of (g02.st.w l _ hw), hx, q _ F2 H2 g02 (r.mono g02.ex)⟩)
theorem pget_list : PGet X (fun o i H Q => ∃ (l : Addr) (xs : List V) (k : Nat) (v : V), o = .ref l ∧ i = .int k ∧ SqL X.K H l xs ∧ xs[k]? = some v ∧ Q v H) := by
  intro pins s σ H o i ov iv Q I ro ri h
  obtain ⟨l, xs, k, v, rfl, rfl, hl, hv, q⟩ := h
  cases ro
  obtain ⟨t, rfl⟩ := ri
  obtain ⟨its, r, pl, hz⟩ := I.list hl
  obtain ⟨u, hu, ru⟩ := r.get hv
  have hn := line63
  have hk : k < xs.length := (List.getElem?_eq_some_iff.mp hv).1
  exact wpAny_getItem_list pl.isList (by omega) (by omega) (x := u) (by simpa using hu) ⟨v, H, I, ru, q⟩
/-- l[j] += an int -/
theorem bl_augL {l : Addr} {vs : List V} {j : Nat} {m m2 : Int} {tpos : Pos} (ha : EvS X a σ F W (.ow l) W) (hb : EvS X b σ F W (.int j) W) (hw : W l = some (.lst vs)) (hx : vs[j]? = some (.int m)) (he : EvS X e σ F W (.int m2) W) (kk : BlkS X rest σ F (upd W l (.lst (vs.set j (.int (m + m2))))) A)
    (hst : ∀ ov iv new, augStore b ov iv new = (do holding [new, ov, iv] (setItem ov iv new); release [new, ov, iv] []; pure .next) := by intros; rfl) :
    BlkS X (.AugAssign (.Subscript a b tpos) .Add e pos :: rest) σ F W A := fun H w E ok =>
  tmB_of (pss_cons (ps_augS pe_tm pe_tm pget_list pe_tm ip_add set_list hst) pss_tm) (ha H w _ fun v F1 H1 g r1 => (hb.mono g.ex).then g fun v2 F2 H2 g2 g02 r2 => by
    cases r1; cases r2
    have hl := g02.st.w l _ hw
    refine ⟨l, vs, j, .int m, rfl, rfl, SqL.of hl, hx, (he.mono g02.ex).then g02 fun v3 F3 H3 g3 g03 r3 => ?_⟩
    cases r3
    refine ⟨m, m2, rfl, rfl, l, vs, j, j, rfl, rfl, g03.st.w l _ hw, ?_, kk.run ok (g03.back.trans (Go.put g03.back.st hw))⟩
    have hj : j < vs.length := (List.getElem?_eq_some_iff.mp hx).1
    unfold ixN
    rw [if_pos (by omega), if_pos (by omega)]; simp)
/-- l[j] = e -/
theorem bl_setL {l : Addr} {vs : List V} {j : Nat} {tpos : Pos} (he : EvS X e σ F W d W) (ha : EvS X a σ F W (.ow l) W) (hb : EvS X b σ F W (.int j) W) (hw : W l = some (.lst vs)) (hj : j < vs.length) (kk : ∀ v F1, Same F F1 → Rep F1 v d → BlkS X rest σ F1 (upd W l (.lst (vs.set j v))) A)
    (hg : ∀ v, assign (.Subscript a b tpos) X.env v = (do
      let ov ← holding [v] (eval a X.env)
      let iv ← holding [v, ov] (eval b X.env)
      standAt tpos
      holding [v, ov, iv] (setItem ov iv v)
      release [v, ov, iv] []) := by intro _; rfl)
    (hs : swapsWithSole [.Subscript a b tpos] e pos.line X.env = pure false := by rfl) (hsw : swappedStores [.Subscript a b tpos] e X.env = pure none := by rfl) (h1 : (assignEach [.Subscript a b tpos] X.env).map (·.2) = [assign (.Subscript a b tpos) X.env] := by rfl) :
    BlkS X (.Assign [.Subscript a b tpos] e pos :: rest) σ F W A := fun H w E ok =>
  tmB_of (pss_cons (ps_asg pe_tm (pg_sub pe_tm pe_tm set_list hg) hs hsw h1) pss_tm) (he H w _ fun v F1 H1 g r => (ha.mono g.ex).then g fun v2 F2 H2 g2 g02 r2 => (hb.mono g02.ex).then g02 fun v3 F3 H3 g3 g03 r3 => by
    cases r2; cases r3
    refine ⟨l, vs, j, j, rfl, rfl, g03.st.w l _ hw, ?_, (kk v F3 g03.ex (r.mono (g2.ex.trans g3.ex))).run ok (g03.trans (Go.put g03.st hw))⟩
    unfold ixN
    rw [if_pos (by omega), if_pos (by omega)]; simp)
/-- l.append(e) -/
theorem bl_app {l : Addr} {vs : List V} (ha : EvS X o σ F W (.ow l) W) (he : EvS X e σ F W d W1) (hw : W1 l = some (.lst vs)) (hz : vs.length < 100000) (hw0 : W l = some (.lst vs)) (kk : ∀ v F1, Same F F1 → Rep F1 v d → BlkS X rest σ F1 (upd W1 l (.lst (vs ++ [v]))) A)
    (hs : swapsWith (.Call (.Attribute o "append" apos) [e] [] p) none pos.line X.env = pure false := by rfl) (h1 : attributeBase o "append" X.env (eval o X.env) = eval o X.env := by rfl) (hst : starEach [e] X.env = (false, eval e X.env) :: starEach [] X.env := by rfl)
    (hln : (apos.endLine == p.line) = true := by rfl) (hfew : (((backTo p (starEach [e] X.env)).all fun x => !x.fst) && (backToKw p (keywordEach [] X.env)).all fun x => x.fst.isSome) && decide (([e].length + ([] : List Keyword).length + if ([] : List Keyword).isEmpty = true then 0 else 1) < 30) = true := by rfl) :
    BlkS X (.Expr (.Call (.Attribute o "append" apos) [e] [] p) pos :: rest) σ F W A := fun H w E ok =>
  tmB_of (pss_cons (ps_expr (pe_bm PySem.F.plainAttrs_list PySem.F.slot_list_append PySem.F.type_list_append mt_append pe_tm (pa_cons pe_tm pa_nil hst) (hbase := h1) (hfew := hfew) (hs := hst) (hline := hln)) hs) pss_tm) (ha H w _ fun v F1 H1 g r => by
    cases r
    refine ⟨.inl ⟨rfl, _, SqL.of (g.st.w l _ hw0)⟩, (he.mono g.ex).then g fun v2 F2 H2 g2 g02 r2 => ?_⟩
    exact ⟨l, vs, v2, rfl, rfl, g02.st.w l _ hw, sz_lt (Nat.le_of_lt hz), (kk v2 F2 g02.ex r2).run ok (g02.trans (Go.put g02.st hw))⟩)
/-- x += e -/
theorem bl_augI {i : Nat} {x : Str} {m m2 : Int} {pos' : Pos} (hx : σ[i]? = some (some (.int m))) (he : EvS X e σ F W (.int m2) W1) (kk : BlkS X rest (σ.set i (some (.int (m + m2)))) F W1 A) (hi : X.N[i]? = some x := by rfl) (hN : X.N.Nodup := by first | assumption | decide +kernel) (hl : Loc X.env.scope x := by first | exact Or.inl rfl | exact Or.inr rfl)
    (hf : X.fn x = true ∨ X.env.scope.names.lookup x = some .local := by first | exact .inl rfl | exact .inr rfl) : BlkS X (.AugAssign (.Name x pos') .Add e pos :: rest) σ F W A := fun H w E ok =>
  tmB_of (pss_cons (ps_aug hN hi hl pe_tm ip_add hf) pss_tm) ⟨_, hx, he H w _ fun v F1 H1 g r => by
    cases r
    exact ⟨m, m2, rfl, rfl, kk.run ok g.back⟩⟩
/-- a, b = x, y; a, b, c = x, y, z (plain local names, stored from the right) -/
theorem bl_par2 {i j : Nat} {x y : Str} {px py pt : Pos} {kt k2 pt2} (ha : EvA X [a, b] σ F W [d1, d2] W1) (kk : ∀ v1 v2 F1, Same F F1 → Rep F1 v1 d1 → Rep F1 v2 d2 → BlkS X rest ((σ.set i (some v1)).set j (some v2)) F1 W1 A) (hi : X.N[i]? = some x := by rfl) (hj : X.N[j]? = some y := by rfl) (hij : i ≠ j := by decide)
    (hx : X.env.scope.names.lookup x = some .local := by rfl) (hy : X.env.scope.names.lookup y = some .local := by rfl) (hw : swappedStores [.Tuple [.Name x px, .Name y py] kt pt] (.Tuple [a, b] k2 pt2) X.env = pure (some [x, y]) := by rfl)
    (hs : swapsWithSole [.Tuple [.Name x px, .Name y py] kt pt] (.Tuple [a, b] k2 pt2) pos.line X.env = pure false := by rfl) (hc : X.calm = true := by rfl) (hN : X.N.Nodup := by first | assumption | decide +kernel) :
    BlkS X (.Assign [.Tuple [.Name x px, .Name y py] kt pt] (.Tuple [a, b] k2 pt2) pos :: rest) σ F W A := fun H w E ok =>
  tmB_of (pss_cons (ps_par hc hN hi hj hij hx hy pa_tm hw hs) pss_tm) (ha H w _ fun vs F1 H1 g r => by
    cases r with
    | cons r1 t =>
    cases t with
    | cons r2 t =>
    cases t
    exact ⟨_, _, rfl, (kk _ _ F1 g.ex r1 r2).run ok g⟩)
/-! ### an owned new list -/
def EvN (X : Cx) (e : Expr) (σ : L2.St) (F W : Hp) (ds : List D) (W1 : Hp) : Prop :=
  ∀ H, Wd F W H → ∀ Q : VK, (∀ p vs F' H', Go F W H F' (upd W1 p (.lst vs)) H' → Reps F' vs ds → W1 p = none → F' p = none → Q (.ref p) H') → tmE X e σ H Q
theorem en_lst (h : EvA X es σ F W ds W1) (hz : ds.length ≤ 100000) : EvN X (.List es pos) σ F W ds W1 := fun H w Q q =>
  tm_of (pe_lst pa_tm) (h H w _ fun vs F1 H1 g r => ⟨by rw [r.length]; exact sz_ok hz, fun p hp => q p vs _ _ (g.trans (Go.own g.st hp)) r (g.st.fresh hp).2 (g.st.fresh hp).1⟩)
theorem en_list {t : Bool} {y : Str} (hm : X.mg "list" = none) (ha : EvA X [e] σ F W [.sq t ds] W1) (hv : bootBuiltins "list" = some (.type "list")) (hg : Gl X "list" := by rfl)
    (he : starEach [e] X.env = (false, eval e X.env) :: starEach [] X.env := by rfl) : EvN X (.Call (.Name "list" p) [e] [] pos) σ F W ds W1 := fun H w Q q =>
  tm_of (pe_callTy call_list_of hg hm hv pa_tm (by decide) (by decide) he rfl) (ha H w _ fun vs F1 H1 g r => by
    cases r with
    | cons r t =>
    cases t
    obtain ⟨l, us, rfl, h1, s1, z1⟩ := r.sq_inv
    exact ⟨l, us, rfl, g.st.seq h1, fun p hp => q p us _ _ (g.trans (Go.own g.st hp)) s1 (g.st.fresh hp).2 (g.st.fresh hp).1⟩)
theorem en_rep {xs : List D} {k : Int} (ha : EvS X a σ F W (.sq false xs) W1) (hb : EvS X b σ F W1 (.int k) W2) (hk : k ≤ 100000) (hz : xs.length * k.toNat ≤ 100000) (h0 : -100000 ≤ k) : EvN X (.BinOp a .Mult b pos) σ F W (List.replicate k.toNat xs).flatten W2 := fun H w Q q =>
  tm_of (pe_op op_rep pe_tm pe_tm) (ha H w _ fun v1 F1 H1 g1 r1 => (hb.mono g1.ex).then g1 fun v2 F2 H2 g2 g02 r2 => by
    obtain ⟨l, vs, rfl, h1, s1, z1⟩ := (r1.mono g2.ex).lst_inv
    cases r2
    exact ⟨l, k, vs, rfl, rfl, g2.st.lst h1, by omega, by omega, by rw [s1.length]; exact sz_ok hz, fun p hp => q p _ _ _ (g02.trans (Go.own g02.st hp)) (s1.rep k.toNat) (g02.st.fresh hp).2 (g02.st.fresh hp).1⟩)
theorem bl_asgN {i : Nat} {x : Str} {pos' : Pos} (h : EvN X e σ F W ds W1) (k : ∀ p vs F1, Same F F1 → Reps F1 vs ds → W1 p = none → BlkS X rest (σ.set i (some (.ref p))) F1 (upd W1 p (.lst vs)) A) (hi : X.N[i]? = some x := by rfl) (hx : Loc X.env.scope x := by first | exact Or.inl rfl | exact Or.inr rfl)
    (hs : swapsWith e (some (.Name x pos')) pos.line X.env = pure false := by rfl) (hN : X.N.Nodup := by first | assumption | decide +kernel) (hf : X.fn x = true ∨ X.env.scope.names.lookup x = some .local := by first | exact .inl rfl | exact .inr rfl) :
    BlkS X (.Assign [.Name x pos'] e pos :: rest) σ F W A := fun H w E o =>
  tmB_of (pss_cons (ps_set hN hi hx pe_tm hs hf) pss_tm) (h H w _ fun p vs F' H' g r wp fp => (k p vs F' g.ex r wp).run o g)
/-- from here on it is not changed -/
theorem bl_freeze {l : Addr} {vs : List V} {sts : List Stmt} (hw : W l = some (.lst vs)) (r : Reps F vs ds) (hz : ds.length ≤ 100000) (k : ∀ F1, Same F F1 → Rep F1 (.ref l) (.sq false ds) → BlkS X sts σ F1 (del W l) A) : BlkS X sts σ F W A := fun H w E ok => by
  have g := Go.freeze w hw
  exact (k (upd F l (.lst vs)) g.ex (.sq (t := false) upd_same (r.mono g.ex) hz)).run ok g
/-! ### comprehensions that draw -/
def lcK {α β : Type} (t : α → Nat → Bool × Nat) (f : α → Nat → β × Nat) : List α → Nat → List β × Nat
  | [], k => ([], k)
  | x :: xs, k => if (t x k).1 = true then ((f x (t x k).2).1 :: (lcK t f xs (f x (t x k).2).2).1, (lcK t f xs (f x (t x k).2).2).2) else lcK t f xs (t x k).2
theorem lcK_snoc {α β : Type} (t : α → Nat → Bool × Nat) (f : α → Nat → β × Nat) (x : α) : ∀ (xs : List α) (k : Nat), lcK t f (xs ++ [x]) k =
    (let r := lcK t f xs k; if (t x r.2).1 = true then (r.1 ++ [(f x (t x r.2).2).1], (f x (t x r.2).2).2) else (r.1, (t x r.2).2))
  | [], k => by
    simp only [List.nil_append, lcK]
    rfl
  | y :: ys, k => by
    have ih := lcK_snoc t f x ys
    simp only [List.cons_append, lcK]
    by_cases h : (t y k).1 = true
    · simp only [h, if_true, ih]
      by_cases h2 : (t x (lcK t f ys (f y (t y k).2).2).2).1 = true
      · simp only [h2, if_true, List.cons_append]
      · simp only [h2, if_false]; rfl
    · simp only [h, if_false, ih]; rfl
theorem lc_K {α β : Type} {xs : List α} {f : α → D} {g : β → D} {own : List (Str × Nat)} {scope : Scope} (WK : Nat → Hp) {k0 : Nat} (t : α → Nat → Bool × Nat) (el : α → Nat → β × Nat) (hi : EvI X tg iter σ F W (xs.map f) (WK k0)) (hz : xs.length ≤ 100000)
    (body : ∀ x ∈ xs, ∀ k v F1, Same F F1 → Rep F1 v (f x) → Turn1 X scope (own.map (·.2)) tg ifs elt v σ F1 (WK k) (t x k).1 (WK (t x k).2) (g (el x (t x k).2).1) (WK (el x (t x k).2).2)) :
    LcS X elt tg iter ifs scope own σ F W (.sq false ((lcK t el xs k0).1.map g)) (WK (lcK t el xs k0).2) := by
  have kAt : ∀ i x, xs[i]? = some x → lcK t el (xs.take (i + 1)) k0 = (let r := lcK t el (xs.take i) k0; if (t x r.2).1 = true then (r.1 ++ [(el x (t x r.2).2).1], (el x (t x r.2).2).2) else (r.1, (t x r.2).2)) := fun i x hx => by
    rw [List.take_add_one, hx]; exact lcK_snoc t el x _ k0
  cases xs with
  | nil =>
    exact lc_G (n := 0) (Wf := fun _ => WK k0) (Wm := fun _ => WK k0) (p := fun _ => false) (g := fun _ => D.non) hi rfl (fun i d h => by simp at h) (fun _ _ _ => rfl) (Nat.zero_le _)
  | cons x0 xs' =>
    generalize hxs : x0 :: xs' = ys at *
    have key : ∀ i, i ≤ ys.length → ((List.range i).filter (fun i => (t (ys.getD i x0) (lcK t el (ys.take i) k0).2).1)).map (fun i => g (el (ys.getD i x0) (t (ys.getD i x0) (lcK t el (ys.take i) k0).2).2).1) = (lcK t el (ys.take i) k0).1.map g := by
      intro i
      induction i with
      | zero => intro _; rfl
      | succ i ih =>
        intro hi
        have hx : ys[i]? = some ys[i] := by simp [show i < ys.length from hi]
        have hd : ys.getD i x0 = ys[i] := by rw [List.getD_eq_getElem?_getD, hx]; rfl
        rw [List.range_succ, List.filter_append, List.map_append, ih (Nat.le_of_succ_le hi), kAt i _ hx]
        by_cases h : (t ys[i] (lcK t el (ys.take i) k0).2).1 = true
        · simp only [List.filter_cons, hd, h, if_true, List.filter_nil, List.map_cons, List.map_nil, List.map_append]
        · simp only [List.filter_cons, hd, h, if_false, List.filter_nil, List.map_nil, List.append_nil]; simp
    have e0 := key ys.length (Nat.le_refl _)
    rw [List.take_length] at e0
    rw [← e0]
    have e1 : (lcK t el ys k0).2 = (lcK t el (ys.take ys.length) k0).2 := by rw [List.take_length]
    rw [e1]
    refine lc_G (n := ys.length) (Wf := fun i => WK (lcK t el (ys.take i) k0).2) (Wm := fun i => WK (t (ys.getD i x0) (lcK t el (ys.take i) k0).2).2) hi (by rw [List.length_map]) (fun i d h v F1 ex r => ?_) (fun i hi hp => ?_) hz
    · rw [List.getElem?_map, Option.map_eq_some_iff] at h
      obtain ⟨x, hx, rfl⟩ := h
      have hd : ys.getD i x0 = x := by rw [List.getD_eq_getElem?_getD, hx]; rfl
      rw [hd, kAt i x hx]
      have b := body x (List.mem_of_getElem? hx) (lcK t el (ys.take i) k0).2 v F1 ex r
      intro s H0 C cl fp H w Q qq
      refine b s H0 C cl fp H w Q fun σ2 ⟨h1, h2, h3⟩ => qq σ2 ⟨h1, h2, fun ht => ?_⟩
      have ht' : (t x (lcK t el (ys.take i) k0).2).1 = true := ht
      simp only [ht', if_true]
      exact h3 ht
    · have hx : ys[i]? = some ys[i] := by simp [hi]
      have hd : ys.getD i x0 = ys[i] := by rw [List.getD_eq_getElem?_getD, hx]; rfl
      show WK _ = WK _
      have hp : (t (ys.getD i x0) (lcK t el (ys.take i) k0).2).1 = false := hp
      rw [kAt i _ hx]
      rw [hd] at hp ⊢
      simp only [hp, Bool.false_eq_true, if_false]
end
end Z
set_option Elab.async false
set_option linter.all false
set_option maxRecDepth 100000
set_option maxHeartbeats 1000000
namespace Z
open PySem PySem.Spec PyProof.Rows L2
section
variable {X : Cx} {e a b c o tg iter elt : Expr} {es ifs : List Expr} {σ : L2.St} {F F1 W W1 W2 W3 : Hp} {d d1 d2 d3 : D} {ds : List D} {q q1 q2 : Bool} {pos p p2 apos : Pos} {i j : Int} {n k : Nat} {A : AE} {rest body : List Stmt}
/-! ### chains of two -/
theorem ev_ch {op op' : CmpOp} (ha : EvS X a σ F W d1 W) (hb : EvS X b σ F W d2 W) (h1 : CmpR X op F W d1 d2 q1) (hc : q1 = true → EvS X c σ F W d3 W) (h2 : CmpR X op' F W d2 d3 q2) (hm : lastMarks [op, op'] [b, c] = false := by with_unfolding_all rfl) : EvS X (.Compare a [op, op'] [b, c] pos) σ F W (.bl (q1 && q2)) W := fun H w Q qq => by
  obtain ⟨r, ho, hr⟩ := h1.ex
  obtain ⟨r', ho', hr'⟩ := h2.ex
  exact tm_of (pe_chain ho ho' pe_tm pe_tm pe_tm hm) (ha H w _ fun v1 F1 H1 g1 r1 => (hb.mono g1.ex).then g1 fun v2 F2 H2 g2 g02 r2 =>
    hr v1 v2 F2 H2 g02.ex (r1.mono g2.ex) r2 g2.st _ fun v F3 H3 g3 r3 => by
      cases r3
      refine ⟨q1, rfl, ?_⟩
      cases q1 with
      | false => exact qq _ F3 H3 (g02.trans g3) (.bl _)
      | true => exact ((hc rfl).mono (g02.trans g3).ex).then (g02.trans g3) fun v4 F4 H4 g4 g04 r4 => hr' v2 v4 F4 H4 g04.ex (r2.mono (g3.ex.trans g4.ex)) r4 g4.st Q fun v F' H' g r => qq v F' H' (g04.trans g) r)
theorem et_ch {op op' : CmpOp} (ha : EvS X a σ F W d1 W) (hb : EvS X b σ F W d2 W) (h1 : CmpR X op F W d1 d2 q1) (hc : q1 = true → EvS X c σ F W d3 W) (h2 : CmpR X op' F W d2 d3 q2) (hm : lastMarks [op, op'] [b, c] = false := by with_unfolding_all rfl) : EvT X (.Compare a [op, op'] [b, c] pos) σ F W (q1 && q2) W := fun H w Q qq => by
  obtain ⟨r, ho, hr⟩ := h1.ex
  obtain ⟨r', ho', hr'⟩ := h2.ex
  exact tmT_of (pt_chain ho ho' pe_tm pe_tm pe_tm hm) (ha H w _ fun v1 F1 H1 g1 r1 => (hb.mono g1.ex).then g1 fun v2 F2 H2 g2 g02 r2 =>
    hr v1 v2 F2 H2 g02.ex (r1.mono g2.ex) r2 g2.st _ fun v F3 H3 g3 r3 => by
      cases r3
      refine ⟨q1, rfl, ?_⟩
      cases q1 with
      | false => exact ⟨false, rfl, qq F3 H3 (g02.trans g3)⟩
      | true => exact ((hc rfl).mono (g02.trans g3).ex).then (g02.trans g3) fun v4 F4 H4 g4 g04 r4 => hr' v2 v4 F4 H4 g04.ex (r2.mono (g3.ex.trans g4.ex)) r4 g4.st _ fun v F' H' g r => (match v, r with | _, .bl _ => ⟨q2, rfl, qq F' H' (g04.trans g)⟩))
/-! ### typed rows -/
section
variable {α β γ : Type} {f : α → D} {g : β → D} {t u : Bool} {xs ys : List α} {zs : List β} {x y z : α}
theorem cl_lenR : CalR X (.builtin "len") F W [eR t f xs] (.int xs.length) := (cl_len (xs := xs.map f)).is (by rw [List.length_map])
theorem cl_listR : CalR X (.type "list") F W [eR t f xs] (eR false f xs) := cl_list
theorem cl_tupleR : CalR X (.type "tuple") F W [eR t f xs] (eR true f xs) := cl_tuple
theorem ev_catR (ha : EvS X a σ F W (eR false f xs) W1) (hb : EvS X b σ F W1 (eR false f ys) W2) (hz : xs.length + ys.length ≤ 100000) : EvS X (.BinOp a .Add b pos) σ F W (eR false f (xs ++ ys)) W2 :=
  ev_is (ev_cat ha hb (by simpa using hz)) (by unfold eR; rw [List.map_append])
theorem ev_catTR (ha : EvS X a σ F W (eR true f xs) W1) (hb : EvS X b σ F W1 (eR true f ys) W2) (hne : xs ≠ []) (hz : xs.length + ys.length ≤ 100000) : EvS X (.BinOp a .Add b pos) σ F W (eR true f (xs ++ ys)) W2 :=
  ev_is (ev_catT ha hb (by simpa using hne) (by simpa using hz)) (by unfold eR; rw [List.map_append])
theorem ev_repR {m : Int} (ha : EvS X a σ F W (eR false f xs) W1) (hb : EvS X b σ F W1 (.int m) W2) (hk : m ≤ 100000) (hz : xs.length * m.toNat ≤ 100000) (h0 : -100000 ≤ m) : EvS X (.BinOp a .Mult b pos) σ F W (eR false f (List.replicate m.toNat xs).flatten) W2 :=
  ev_is (ev_rep ha hb hk (by simpa using hz) h0) (by unfold eR; rw [List.map_flatten, List.map_replicate])
theorem ev_lstR (xs : List α) (h : EvA X es σ F W (xs.map f) W1) (hz : xs.length ≤ 100000) : EvS X (.List es pos) σ F W (eR false f xs) W1 := ev_lst h (by simpa using hz)
theorem ev_tupR {x1} (xs : List α) (h : EvA X es σ F W (xs.map f) W1) (hz : xs.length ≤ 100000) : EvS X (.Tuple es x1 pos) σ F W (eR true f xs) W1 := ev_tup h (by simpa using hz)
/-- [*xs, ..] / (*xs, ..) -/
theorem ea_starR {ws : List α} (ha : EvS X e σ F W (eR t f xs) W1) (hr : EvA X es σ F W1 (ws.map f) W2) (hs : starEach (.Starred e p :: es) X.env = (true, eval e X.env) :: starEach es X.env := by rfl) : EvA X (.Starred e p :: es) σ F W ((xs ++ ws).map f) W2 :=
  ea_is (ea_star ha hr hs) (by rw [List.map_append])
theorem ea_consR {x : α} {ws : List α} (ha : EvS X e σ F W (f x) W1) (hr : EvA X es σ F W1 (ws.map f) W2) (hs : starEach (e :: es) X.env = (false, eval e X.env) :: starEach es X.env := by rfl) : EvA X (e :: es) σ F W ((x :: ws).map f) W2 := ea_cons ha hr hs
theorem ea_nilR : EvA X [] σ F W (([] : List α).map f) W := ea_nil
def enumT (xs : List α) : List (Int × α) := xs.zipIdx.map fun p => ((p.2 : Int), p.1)
theorem ei_enumR {elts : List Expr} {kk : Nat} {tpos : Pos} (hm : X.mg "enumerate" = none) (h : EvS X a σ F W (eR t f xs) W1) (hg : Gl X "enumerate" := by rfl) (hs : starEach [a] X.env = [(false, eval a X.env)] := by rfl) :
    EvI X (.Tuple elts kk tpos) (.Call (.Name "enumerate" p) [a] [] pos) σ F W ((enumT xs).map (eP D.int f)) W1 := by
  have e : (enumT xs).map (eP D.int f) = enumD (xs.map f) := by
    unfold enumT enumD
    rw [List.zipIdx_map, List.map_map, List.map_map]; rfl
  rw [e]
  exact ei_enum hm (ea_cons h ea_nil hs) hg hs
theorem ei_zipR {elts : List Expr} {kk : Nat} {tpos : Pos} (hm : X.mg "zip" = none) (ha : EvS X a σ F W (eR t f xs) W1) (hb : EvS X b σ F W1 (eR u g zs) W2) (hg : Gl X "zip" := by rfl) (hs : starEach [a, b] X.env = (false, eval a X.env) :: starEach [b] X.env := by rfl) (hs2 : starEach [b] X.env = (false, eval b X.env) :: starEach [] X.env := by rfl) (hpl : (backTo pos (starEach [b] X.env)).any (·.1) = false := by rfl) :
    EvI X (.Tuple elts kk tpos) (.Call (.Name "zip" p) [a, b] [] pos) σ F W ((xs.zip zs).map (eP f g)) W2 := by
  have e : (xs.zip zs).map (eP f g) = zipD (xs.map f) (zs.map g) := by
    unfold zipD
    rw [List.zip_map, List.map_map]; rfl
  rw [e]
  exact ei_zipG hm (ea_cons ha (ea_cons hb ea_nil hs2) hs) hg hs hpl
/-- comprehensions, typed -/
theorem lc_F {own : List (Str × Nat)} {scope : Scope} (pr : α → Bool) (el : α → β) (hi : EvI X tg iter σ F W (xs.map f) W1) (hz : xs.length ≤ 100000)
    (body : ∀ x ∈ xs, ∀ v F1, Same F F1 → Rep F1 v (f x) → Turn1 X scope (own.map (·.2)) tg ifs elt v σ F1 W1 (pr x) W1 (g (el x)) W1) : LcS X elt tg iter ifs scope own σ F W (eR false g ((xs.filter pr).map el)) W1 :=
  (lc_of (p := pr) (g := fun x => g (el x)) hi hz body).is (by unfold eR; rw [List.map_map]; rfl)
theorem lc_M {own : List (Str × Nat)} {scope : Scope} (el : α → β) (hi : EvI X tg iter σ F W (xs.map f) W1) (hz : xs.length ≤ 100000)
    (body : ∀ x ∈ xs, ∀ v F1, Same F F1 → Rep F1 v (f x) → Turn1 X scope (own.map (·.2)) tg ifs elt v σ F1 W1 true W1 (g (el x)) W1) : LcS X elt tg iter ifs scope own σ F W (eR false g (xs.map el)) W1 :=
  (lc_F (fun _ => true) el hi hz body).is (by rw [List.filter_eq_self.mpr (fun _ _ => rfl)])
/-- typed, drawing -/
theorem lc_KM {own : List (Str × Nat)} {scope : Scope} (WK : Nat → Hp) {k0 : Nat} (el : α → Nat → β × Nat) (hi : EvI X tg iter σ F W (xs.map f) (WK k0)) (hz : xs.length ≤ 100000)
    (body : ∀ x ∈ xs, ∀ k v F1, Same F F1 → Rep F1 v (f x) → Turn1 X scope (own.map (·.2)) tg ifs elt v σ F1 (WK k) true (WK k) (g (el x k).1) (WK (el x k).2)) :
    LcS X elt tg iter ifs scope own σ F W (eR false g (lcK (fun _ k => (true, k)) el xs k0).1) (WK (lcK (fun _ k => (true, k)) el xs k0).2) :=
  lc_K WK (fun _ k => (true, k)) el hi hz body
end
/-! ### a row is true unless empty -/
/-! ### three at once -/
theorem bl_par3 {i j l : Nat} {x y z : Str} {px py pz pt : Pos} {kt k2 pt2} (ha : EvA X [a, b, c] σ F W [d1, d2, d3] W1) (kk : ∀ v1 v2 v3 F1, Same F F1 → Rep F1 v1 d1 → Rep F1 v2 d2 → Rep F1 v3 d3 → BlkS X rest (((σ.set i (some v1)).set j (some v2)).set l (some v3)) F1 W1 A) (hi : X.N[i]? = some x := by rfl) (hj : X.N[j]? = some y := by rfl) (hl : X.N[l]? = some z := by rfl) (hij : i ≠ j := by decide) (hil : i ≠ l := by decide) (hjl : j ≠ l := by decide)
    (hx : X.env.scope.names.lookup x = some .local := by rfl) (hy : X.env.scope.names.lookup y = some .local := by rfl) (hz : X.env.scope.names.lookup z = some .local := by rfl) (hw : swappedStores [.Tuple [.Name x px, .Name y py, .Name z pz] kt pt] (.Tuple [a, b, c] k2 pt2) X.env = pure (some [x, y, z]) := by rfl)
    (hs : swapsWithSole [.Tuple [.Name x px, .Name y py, .Name z pz] kt pt] (.Tuple [a, b, c] k2 pt2) pos.line X.env = pure false := by rfl) (hc : X.calm = true := by rfl) (hN : X.N.Nodup := by first | assumption | decide +kernel) :
    BlkS X (.Assign [.Tuple [.Name x px, .Name y py, .Name z pz] kt pt] (.Tuple [a, b, c] k2 pt2) pos :: rest) σ F W A := fun H w E ok =>
  tmB_of (pss_cons (ps_par3 hc hN hi hj hl hij hil hjl hx hy hz pa_tm hw hs) pss_tm) (ha H w _ fun vs F1 H1 g r => by
    cases r with
    | cons r1 t =>
    cases t with
    | cons r2 t =>
    cases t with
    | cons r3 t =>
    cases t
    exact ⟨_, _, _, rfl, (kk _ _ _ F1 g.ex r1 r2 r3).run ok g⟩)
/-! ### for, with an early end: f tells what a turn makes of the state, or the end -/
def lpR {α S R : Type} (f : S → α → Except R S) : List α → S → Except R S
  | [], s => .ok s
  | x :: xs, s => match f s x with
    | .ok s' => lpR f xs s'
    | .error r => .error r
theorem lpR_app {α S R : Type} (f : S → α → Except R S) (ys : List α) : ∀ (xs : List α) (s : S), lpR f (xs ++ ys) s = match lpR f xs s with
    | .ok s' => lpR f ys s'
    | .error r => .error r
  | [], s => rfl
  | x :: xs, s => by
    simp only [List.cons_append, lpR]
    cases f s x with
    | ok s' => exact lpR_app f ys xs s'
    | error r => rfl
theorem bl_forR {α S R : Type} {xs : List α} {f : α → D} (hi : EvI X tg iter σ F W (xs.map f) W1) (st : S → α → Except R S) (s0 : S) (J : S → L2.St → Hp → Hp → Prop) (h0 : ∀ F1, Same F F1 → J s0 σ F1 W1)
    (hs : ∀ x ∈ xs, ∀ s, ∀ σ' F1 W', Same F F1 → J s σ' F1 W' → ∀ v F2, Same F1 F2 → Rep F2 v (f x) → TgT X tg v σ' F2 W' fun σ2 =>
      BlkS X body σ2 F2 W' { nx := fun σ3 F3 W3 => ∃ s', st s x = .ok s' ∧ J s' σ3 F3 W3, rt := fun d W3 => ∃ r, st s x = .error r ∧ (lpR st xs s0 = .error r → A.rt d W3), bk := fun σ' F' W' => ∃ r, st s x = .error r ∧ (lpR st xs s0 = .error r → BlkS X rest σ' F' W' A), ct := fun σ3 F3 W3 => ∃ s', st s x = .ok s' ∧ J s' σ3 F3 W3 })
    (hd : ∀ s, lpR st xs s0 = .ok s → ∀ σ' F1 W', Same F F1 → J s σ' F1 W' → BlkS X rest σ' F1 W' A) (hc : X.calm = true := by rfl) (hp : PassesOwn (model X.prog X.w) X.A X.env X.xe := by exact PassesOwn.never) (hf : ∀ x, foldedSetIterable iter X.env x = pure x := by intro _; rfl) :
    BlkS X (.For tg iter body [] pos :: rest) σ F W A :=
  bl_for (n := xs.length) hi (by rw [List.length_map]) (fun i σ' F' W' => ∃ s, lpR st (xs.take i) s0 = .ok s ∧ J s σ' F' W') (fun F1 e => ⟨s0, rfl, h0 F1 e⟩) (fun i d h σ' F1 W' e inv v F2 e2 r => by
    rw [List.getElem?_map, Option.map_eq_some_iff] at h
    obtain ⟨x, hx, rfl⟩ := h
    obtain ⟨s, hs1, inv⟩ := inv
    have hi' := (List.getElem?_eq_some_iff.mp hx).1
    have e1 : lpR st (xs.take (i + 1)) s0 = match st s x with
      | .ok s' => .ok s'
      | .error r => .error r := by
      rw [List.take_add_one, hx, lpR_app, hs1]
      show lpR st [x] s = _
      simp only [lpR]
    have hall : ∀ r, st s x = .error r → lpR st xs s0 = .error r := fun r hr => by
      have : xs = xs.take (i + 1) ++ xs.drop (i + 1) := (List.take_append_drop _ _).symm
      rw [this, lpR_app, e1, hr]
    intro H w Q k
    refine hs x (List.mem_of_getElem? hx) s σ' F1 W' e inv v F2 e2 r H w Q fun σ2 hb => k σ2 ?_
    intro H2 w2 E ok
    refine hb H2 w2 E ⟨fun σ' F' W' H' g q => ?_, fun d v F' W' H' g r q => ?_, fun σ' F' W' H' g q => ?_, fun σ' F' W' H' g q => ?_⟩
    · obtain ⟨s', hs', q⟩ := q
      exact ok.nx σ' F' W' H' g ⟨s', by rw [e1, hs'], q⟩
    · obtain ⟨r0, hr, q⟩ := q
      exact ok.rt d v F' W' H' g r (q (hall r0 hr))
    · obtain ⟨r0, hr, q⟩ := q
      exact ok.bk σ' F' W' H' g (q (hall r0 hr))
    · obtain ⟨s', hs', q⟩ := q
      exact ok.ct σ' F' W' H' g ⟨s', by rw [e1, hs'], q⟩) (fun σ' F1 W' e inv => by
    obtain ⟨s, hs1, inv⟩ := inv
    rw [List.take_length] at hs1
    exact hd s hs1 σ' F1 W' e inv) hc hp hf
end
end Z
set_option Elab.async false
set_option linter.all false
set_option maxRecDepth 100000
set_option maxHeartbeats 1000000
namespace Z
open PySem PySem.Spec PyProof.Rows L2
def ixI {α : Type} (d : α) (xs : List α) (i : Int) : α := (atI xs i).getD d
theorem ixI_nat {α : Type} {d : α} {xs : List α} {i : Nat} (h : i < xs.length) : ixI d xs (i : Int) = xs[i] := by
  unfold ixI atI ixN
  rw [if_pos (by omega), if_pos (by omega)]
  simp [h]
theorem ixI_pos {α : Type} {d : α} {xs : List α} {i : Int} (h0 : 0 ≤ i) (h : i < xs.length) : ixI d xs i = xs.getD i.toNat d := by
  unfold ixI atI ixN
  rw [if_pos (by omega), if_pos (by omega)]
  simp [List.getD_eq_getElem?_getD]
theorem ixI_at {α : Type} {d : α} {xs : List α} {i : Int} (h : -(xs.length : Int) ≤ i ∧ i < xs.length) : atI xs i = some (ixI d xs i) := by
  unfold ixI
  cases e : atI xs i with
  | some x => rfl
  | none =>
    exfalso
    unfold atI ixN at e
    by_cases h0 : 0 ≤ i
    · rw [if_pos h0, if_pos h.2] at e
      simp at e; omega
    · rw [if_neg h0, if_pos h.1] at e
      simp at e; omega
section
variable {X : Cx} {e a b c o tg iter elt : Expr} {es ifs : List Expr} {σ : L2.St} {F F1 W W1 W2 W3 : Hp} {d d1 d2 d3 : D} {ds : List D} {q q1 q2 : Bool} {pos p p2 apos : Pos} {i j : Int} {n k : Nat} {A : AE} {rest body sa sb : List Stmt}
theorem ev_gI {x : Str} (hm : ∃ t, X.mg x = some (.int i t)) (hg : Gl X x := by rfl) (hd : (x == ("__debug__" : Str)) = false := by decide) : EvS X (.Name x pos) σ F W (.int i) W := by
  obtain ⟨t, h⟩ := hm; exact ev_gint hg h hd
theorem ev_gS {x i : Str} (hm : ∃ t, X.mg x = some (.str i t)) (hg : Gl X x := by rfl) (hd : (x == ("__debug__" : Str)) = false := by decide) : EvS X (.Name x pos) σ F W (.str i) W := by
  obtain ⟨t, h⟩ := hm; exact ev_gstr hg h hd
theorem cm_isO {α : Type} {f : α → D} {x : Option α} (h : ∀ y, (f y).isN = false) : CmpR X .Is F W (eO f x) .non x.isNone := cm_is.is (by cases x with
  | none => rfl
  | some y => exact h y)
theorem cm_isnotO {α : Type} {f : α → D} {x : Option α} (h : ∀ y, (f y).isN = false) : CmpR X .IsNot F W (eO f x) .non (!x.isNone) := cm_isnot.is (by cases x with
  | none => rfl
  | some y => exact congrArg _ (h y))
theorem et_row {α : Type} {f : α → D} {xs : List α} {t : Bool} (h : EvS X e σ F W (eR t f xs) W1) (he : ∀ whole, isTrue e X.env whole = (do let v ← whole; standAt e.pos; holding [v] (truthy v)) := by intro _; rfl) : EvT X e σ F W (!decide (xs = [])) W1 := fun H w Q qq =>
  tmT_of (pt_truth pe_tm he) (h H w _ fun v F' H' g r => by
    obtain ⟨l, us, rfl, h1, s1, z1⟩ := Rep.sq_inv r
    refine ⟨_, ?_, qq F' H' g⟩
    have e : (!decide (xs = [])) = !us.isEmpty := by
      have := s1.length
      rw [List.length_map] at this
      cases xs with
      | nil => cases us with
        | nil => rfl
        | cons _ _ => simp at this
      | cons _ _ => cases us with
        | nil => simp at this
        | cons _ _ => simp
    rw [e]
    show (∃ xs, SqL X.K H' l xs ∧ (!us.isEmpty) = !xs.isEmpty) ∨ (∃ xs, SqT X.K H' l xs ∧ (!us.isEmpty) = !xs.isEmpty) ∨ ∃ kvs, H' l = some (.dK kvs) ∧ (!us.isEmpty) = !kvs.isEmpty
    have := sqo_of (K := X.K) g.st h1
    cases t with
    | false => exact .inl ⟨us, this, rfl⟩
    | true => exact .inr (.inl ⟨us, this, rfl⟩))
theorem et_int (h : EvS X e σ F W (.int i) W1) (he : ∀ whole, isTrue e X.env whole = (do let v ← whole; standAt e.pos; holding [v] (truthy v)) := by intro _; rfl) : EvT X e σ F W (!decide (i = 0)) W1 := fun H w Q qq =>
  tmT_of (pt_truth pe_tm he) (h H w _ fun v F' H' g r => by
    cases r
    refine ⟨_, ?_, qq F' H' g⟩
    show (!decide (i = 0)) = (i != 0)
    by_cases h : i = 0 <;> simp [h])
section
variable {α β γ : Type} [DecidableEq α] [DecidableEq β] [DecidableEq γ] {f : α → D} {g : β → D} {h : γ → D} {m1 m2 m3 : Nat}
theorem Lw.pairM (a : Lw f m1) (b : Lw g m2) : Lw (eP f g) (max m1 m2 + 1) := (a.mono (Nat.le_max_left _ _)).pair (b.mono (Nat.le_max_right _ _))
theorem Lw.tripM (a : Lw f m1) (b : Lw g m2) (c : Lw h m3) : Lw (eP3 f g h) (max m1 (max m2 m3) + 1) := (a.mono (Nat.le_max_left _ _)).triple (b.mono (Nat.le_trans (Nat.le_max_left _ _) (Nat.le_max_right _ _))) (c.mono (Nat.le_trans (Nat.le_max_right _ _) (Nat.le_max_right _ _)))
end
theorem ev_isRow {α : Type} {f : α → D} {xs : List α} {t : Bool} {y y2 : Str} {p3 : Pos} {k3 p4}
    (h : ∀ {T : String} {q q2 : Bool}, (Z.eR t f xs).ty = some T → kitB T "list" = some q → kitB T "tuple" = some q2 → EvS X (.Call (.Name "isinstance" p) [e, .Tuple [.Name y p2, .Name y2 p3] k3 p4] [] pos) σ F W (.bl (q || q2)) W1) : EvS X (.Call (.Name "isinstance" p) [e, .Tuple [.Name y p2, .Name y2 p3] k3 p4] [] pos) σ F W (.bl true) W1 := by
  cases t with
  | false => exact h (T := "list") (q := true) (q2 := false) rfl (by decide +kernel) (by decide +kernel)
  | true => exact h (T := "tuple") (q := false) (q2 := true) rfl (by decide +kernel) (by decide +kernel)
/-! ### ifs by value -/
theorem bl_whenR {α : Type} {f : α → D} {x y : α} {Wz : Hp} {N : L2.St → Hp → Hp → Prop} (hc : EvT X c σ F W q W1) (ha : q = true → BlkS X sa σ F W1 { nx := fun _ _ _ => False, rt := fun d' W2 => d' = f x ∧ W2 = Wz })
    (hb : q = false → BlkS X rest σ F W1 { nx := N, rt := fun d' W2 => d' = f y ∧ W2 = Wz }) : BlkS X (.If c sa [] pos :: rest) σ F W { nx := N, rt := fun d' W2 => d' = f (if q = true then x else y) ∧ W2 = Wz } :=
  bl_when hc (fun h => by
    subst h
    intro H w E ok
    exact ha rfl H w E ⟨fun σ' F' W' H' g k => k.elim, fun d v F' W' H' g r k => ok.rt d v F' W' H' g r k, fun σ' F' W' H' g k => k.elim, fun σ' F' W' H' g k => k.elim⟩) (fun h => by subst h; exact hb rfl)
theorem bl_ifR {α : Type} {f : α → D} {x y : α} {Wz : Hp} {N : L2.St → Hp → Hp → Prop} (hc : EvT X c σ F W q W1) (ha : q = true → BlkS X sa σ F W1 { nx := fun _ _ _ => False, rt := fun d' W2 => d' = f x ∧ W2 = Wz })
    (hb : q = false → BlkS X sb σ F W1 { nx := fun _ _ _ => False, rt := fun d' W2 => d' = f y ∧ W2 = Wz }) : BlkS X (.If c sa sb pos :: rest) σ F W { nx := N, rt := fun d' W2 => d' = f (if q = true then x else y) ∧ W2 = Wz } :=
  bl_if hc (fun h => by
    subst h
    intro H w E ok
    exact ha rfl H w E ⟨fun σ' F' W' H' g k => k.elim, fun d v F' W' H' g r k => ok.rt d v F' W' H' g r k, fun σ' F' W' H' g k => k.elim, fun σ' F' W' H' g k => k.elim⟩) (fun h => by
    subst h
    intro H w E ok
    exact hb rfl H w E ⟨fun σ' F' W' H' g k => k.elim, fun d v F' W' H' g r k => ok.rt d v F' W' H' g r k, fun σ' F' W' H' g k => k.elim, fun σ' F' W' H' g k => k.elim⟩)
theorem bl_never (hc : EvT X c σ F W q W1) (hq : q = false) (k : BlkS X rest σ F W1 A) : BlkS X (.If c sa [] pos :: rest) σ F W A := bl_when hc (fun h => absurd (hq.symm.trans h) (by decide)) fun _ => k
theorem bl_setLW {l : Addr} {vs : List V} {j : Int} {j' : Nat} {tpos : Pos} (he : EvS X e σ F W d W1) (ha : EvS X a σ F W1 (.ow l) W1) (hb : EvS X b σ F W1 (.int j) W1) (hw : W1 l = some (.lst vs)) (hj0 : j = (j' : Int)) (hj : j' < vs.length) (kk : ∀ v F1, Same F F1 → Rep F1 v d → BlkS X rest σ F1 (upd W1 l (.lst (vs.set j' v))) A)
    (hg : ∀ v, assign (.Subscript a b tpos) X.env v = (do
      let ov ← holding [v] (eval a X.env)
      let iv ← holding [v, ov] (eval b X.env)
      standAt tpos
      holding [v, ov, iv] (setItem ov iv v)
      release [v, ov, iv] []) := by intro _; rfl)
    (hs : swapsWithSole [.Subscript a b tpos] e pos.line X.env = pure false := by rfl) (hsw : swappedStores [.Subscript a b tpos] e X.env = pure none := by rfl) (h1 : (assignEach [.Subscript a b tpos] X.env).map (·.2) = [assign (.Subscript a b tpos) X.env] := by rfl) :
    BlkS X (.Assign [.Subscript a b tpos] e pos :: rest) σ F W A := fun H w E ok =>
  tmB_of (pss_cons (ps_asg pe_tm (pg_sub pe_tm pe_tm set_list hg) hs hsw h1) pss_tm) (he H w _ fun v F1 H1 g r => (ha.mono g.ex).then g fun v2 F2 H2 g2 g02 r2 => (hb.mono g02.ex).then g02 fun v3 F3 H3 g3 g03 r3 => by
    cases r2; cases r3
    refine ⟨l, vs, j, j', rfl, rfl, g03.st.w l _ hw, ?_, (kk v F3 g03.ex (r.mono (g2.ex.trans g3.ex))).run ok (g03.trans (Go.put g03.st hw))⟩
    unfold ixN
    subst hj0
    rw [if_pos (by omega), if_pos (by omega)]; simp)
end
section
variable {X : Cx} {tg iter : Expr} {σ : L2.St} {F W W1 : Hp} {pos : Pos} {A : AE} {rest body : List Stmt}
theorem bl_forS {α S : Type} {xs : List α} {f : α → D} (hi : EvI X tg iter σ F W (xs.map f) W1) (st : S → α → S) (s0 : S) (J : S → L2.St → Hp → Hp → Prop) (h0 : ∀ F1, Same F F1 → J s0 σ F1 W1)
    (hs : ∀ x ∈ xs, ∀ s, ∀ σ' F1 W', Same F F1 → J s σ' F1 W' → ∀ v F2, Same F1 F2 → Rep F2 v (f x) → TgT X tg v σ' F2 W' fun σ2 =>
      BlkS X body σ2 F2 W' { nx := J (st s x), rt := A.rt, bk := fun σ' F' W' => BlkS X rest σ' F' W' A, ct := J (st s x) })
    (hd : ∀ σ' F1 W', Same F F1 → J (xs.foldl st s0) σ' F1 W' → BlkS X rest σ' F1 W' A) (hc : X.calm = true := by rfl) (hp : PassesOwn (model X.prog X.w) X.A X.env X.xe := by exact PassesOwn.never) (hf : ∀ x, foldedSetIterable iter X.env x = pure x := by intro _; rfl) :
    BlkS X (.For tg iter body [] pos :: rest) σ F W A :=
  bl_forL hi st s0 J h0 (fun pr x po e σ' F1 W' e1 j v F2 e2 r => hs x (by rw [e]; simp) _ σ' F1 W' e1 j v F2 e2 r) hd hc hp hf
theorem bl_nilJ {S : Type} {J : S → L2.St → Hp → Hp → Prop} {s1 s2 : S} {R : D → Hp → Prop} {B C : L2.St → Hp → Hp → Prop} (e : s1 = s2) (h : J s2 σ F W) : BlkS X [] σ F W { nx := J s1, rt := R, bk := B, ct := C } := bl_nil (by rw [e]; exact h)
end
theorem rg_mem {lo hi x : Int} : x ∈ rg lo hi ↔ lo ≤ x ∧ x < hi := by
  unfold rg
  rw [List.mem_map]
  constructor
  · rintro ⟨i, hi', rfl⟩
    rw [List.mem_range] at hi'
    omega
  · intro h
    exact ⟨(x - lo).toNat, by rw [List.mem_range]; omega, by omega⟩
theorem rep_len {α : Type} {f : α → D} {t : Bool} {xs : List α} {F : Hp} {v : V} (r : Rep F v (eR t f xs)) : xs.length ≤ 100000 := by
  obtain ⟨_, _, _, _, _, z⟩ := Rep.sq_inv r
  rw [List.length_map] at z; exact z
theorem enumT_len {α : Type} {xs : List α} : (enumT xs).length = xs.length := by unfold enumT; rw [List.length_map, List.length_zipIdx]
theorem enumT_mem {α : Type} {xs : List α} {x : Int × α} (h : x ∈ enumT xs) : 0 ≤ x.1 ∧ x.1 < xs.length ∧ x.2 ∈ xs := by
  unfold enumT at h
  rw [List.mem_map] at h
  obtain ⟨p, hp, rfl⟩ := h
  obtain ⟨a, i⟩ := p
  have := List.mem_zipIdx hp
  simp only at this ⊢
  refine ⟨by omega, by omega, ?_⟩
  obtain ⟨_, h2, h3⟩ := this
  rw [h3]; exact List.getElem_mem _
end Z
set_option Elab.async false
set_option linter.all false
set_option maxRecDepth 100000
set_option maxHeartbeats 1000000
namespace Z
open PySem PySem.Spec PyProof.Rows L2
section
variable {X : Cx} {F W W1 : Hp} {σ : L2.St} {tg iter : Expr} {pos : Pos} {A : AE} {rest body : List Stmt}
theorem cr_sumT (hc : X.calm = true) : CallR X (.builtin "sum") (fun vs H Q => ∃ (a : Addr) (ns : List Int), vs = [V.ref a] ∧ SqT X.K H a (ns.map V.int) ∧ Q (.int ns.sum) H) := by
  intro pins s σ H vs us Q I r h
  obtain ⟨a, ns, rfl, hs, q⟩ := h
  obtain ⟨its, rv, tp, _⟩ := I.tuple hs
  rw [Vals.ref1 r]
  have hi := rv.ints
  obtain ⟨xs, e⟩ := hi.allInts.items
  have hn : numsOf (intItems xs).toList = ns := by rw [← e]; exact hi.numsOf
  rw [nums_intItems] at hn
  rw [e] at tp
  have tp' : s.heap.IsTuple a (intItems xs) := tp
  have hlt : a < s.heap.objs.size := by obtain ⟨o, ho, _⟩ := id tp'; exact Heap.lt_size ho
  refine call_sum_walkG (wpAny_pyIter_tuple tp' ?_)
  refine ⟨s.heap.objs.size, [s.heap.objs.size, a], [s.heap.objs.size], (intItems xs).size, _, _, numAt xs, rfl, Walks.tuple (by exact I.ok.hd hc) _ a (Nat.ne_of_lt hlt) (intItems xs), ⟨⟨_, Heap.get?_push_size _ rfl, rfl, rfl⟩, tp'.push _⟩, ?_, ?_, ?_⟩
  · intro b hb
    have : (s.heap.push { cls := .type "tuple_iterator", data := .fields #[.ref a, .int 0 0] }).objs.size = s.heap.objs.size + 1 := by simp [Heap.push]
    rcases List.mem_cons.mp hb with e | hb
    · rw [e]; show _ < (s.heap.push _).objs.size; omega
    · rw [List.mem_singleton.mp hb]; show _ < (s.heap.push _).objs.size; rw [this]; exact Nat.lt_succ_of_lt hlt
  · intro i v hv
    exact intItems_at hv
  · intro h' tk t' hk
    have keep : ∀ b o, s.heap.get? b = some o → h'.get? b = some o := fun b o e => hk b o (fun hm => absurd (Heap.lt_size e) (by rw [List.mem_singleton.mp hm]; exact Nat.lt_irrefl _)) (Heap.get?_push_of_some _ e)
    refine ⟨.int ns.sum, H, I.kept keep, ⟨t', ?_⟩, q⟩
    have hsz : (intItems xs).size = xs.size := by unfold intItems; simp
    rw [preSum_eq, List.take_of_length_le (by simp [hsz]), hn]
theorem cl_sumT {ns : List Int} (hc : X.calm = true := by rfl) : CalR X (.builtin "sum") F W [eR true D.int ns] (.int ns.sum) := ⟨_, cr_sumT hc, fun vs F1 H1 _ r w Q q => by
  cases r with
  | cons r t =>
    cases t
    obtain ⟨l, rfl, h1, z⟩ := rep_ints r
    exact ⟨l, ns, rfl, sqo_of (t := true) w h1, q _ F1 H1 (Go.refl w) (.int _)⟩⟩
theorem en_repR {α : Type} {f : α → D} {a b : Expr} {pos : Pos} {xs : List α} {k : Int} {W2 : Hp} (ha : EvS X a σ F W (eR false f xs) W1) (hb : EvS X b σ F W1 (.int k) W2) (hk : k ≤ 100000) (hz : xs.length * k.toNat ≤ 100000) (h0 : -100000 ≤ k) : EvN X (.BinOp a .Mult b pos) σ F W (((List.replicate k.toNat xs).flatten).map f) W2 := by
  have := en_rep (pos := pos) ha hb hk (by simpa using hz) h0
  rw [List.map_flatten, List.map_replicate]; exact this
theorem en_listR {α : Type} {f : α → D} {e : Expr} {p pos : Pos} {xs : List α} {t : Bool} (hm : X.mg "list" = none) (ha : EvS X e σ F W (eR t f xs) W1) (hv : bootBuiltins "list" = some (.type "list") := by decide +kernel) (hg : Gl X "list" := by rfl) (he : starEach [e] X.env = (false, eval e X.env) :: starEach [] X.env := by rfl) : EvN X (.Call (.Name "list" p) [e] [] pos) σ F W (xs.map f) W1 := en_list (y := "list") hm (ea_cons ha ea_nil he) hv hg he
theorem bl_forI {α S : Type} {xs : List α} {f : α → D} (hi : EvI X tg iter σ F W (xs.map f) W1) (st : S → α → S) (s0 : S) (J : Nat → S → L2.St → Hp → Hp → Prop) (h0 : ∀ F1, Same F F1 → J 0 s0 σ F1 W1)
    (hs : ∀ i x, i < xs.length → x ∈ xs → ∀ s, ∀ σ' F1 W', Same F F1 → J i s σ' F1 W' → ∀ v F2, Same F1 F2 → Rep F2 v (f x) → TgT X tg v σ' F2 W' fun σ2 =>
      BlkS X body σ2 F2 W' { nx := J (i + 1) (st s x), rt := A.rt, bk := fun σ' F' W' => BlkS X rest σ' F' W' A, ct := J (i + 1) (st s x) })
    (hd : ∀ σ' F1 W', Same F F1 → J xs.length (xs.foldl st s0) σ' F1 W' → BlkS X rest σ' F1 W' A) (hc : X.calm = true := by rfl) (hp : PassesOwn (model X.prog X.w) X.A X.env X.xe := by exact PassesOwn.never) (hf : ∀ x, foldedSetIterable iter X.env x = pure x := by intro _; rfl) :
    BlkS X (.For tg iter body [] pos :: rest) σ F W A :=
  bl_for (n := xs.length) hi (by rw [List.length_map]) (fun i => J i ((xs.take i).foldl st s0)) h0 (fun i d h σ' F1 W' e inv v F2 e2 r => by
    rw [List.getElem?_map, Option.map_eq_some_iff] at h
    obtain ⟨x, hx, rfl⟩ := h
    have hi' := (List.getElem?_eq_some_iff.mp hx).1
    have e1 : (xs.take (i + 1)).foldl st s0 = st ((xs.take i).foldl st s0) x := by rw [List.take_add_one, hx, List.foldl_append]; rfl
    rw [e1]
    exact hs i x hi' (List.mem_of_getElem? hx) _ σ' F1 W' e inv v F2 e2 r) (fun σ' F1 W' e inv => hd σ' F1 W' e (by rw [List.take_length] at inv; exact inv)) hc hp hf
end
end Z
set_option Elab.async false
set_option linter.all false
set_option maxRecDepth 100000
set_option maxHeartbeats 1000000
namespace ZSort
open PySem PyProof.Rows Srt SrtO PyProof.Rows
section
variable {prog : Program} {w : World} {A : Around} {E : Value → Shared → Prop} {s : Shared}
/-- all of a tuple, into a new list -/
theorem collect_row {l : Addr} {vs : List Value} {Q : List Value → Shared → Prop} (hl : s.heap.IsTuple l vs.toArray)
    (h : Q vs { s with heap := (s.heap.push (seqObj "list" #[] 0)).update s.heap.objs.size (Obj.mapSeq (· ++ vs.toArray)) }) (hsz : vs.length ≤ sizeLine) :
    wpAny (model prog w) A (collect (.ref l)) Q E s := by
  obtain ⟨o, ho, hc, n, hd⟩ := id hl
  unfold collect
  refine wpAny_bind (wpAny_runValue (codeAny_builtin entry_proto_collect' ?_))
  show wpAny _ _ (do again (.builtin "list.__iadd__" ⟨[← newList [], .ref l], []⟩)) _ _ s
  refine wpAny_bind (wpAny_newList (wpAny_pure ⟨Code.quiet_builtin _ (by decide +kernel), codeAny_builtin entry_list_iadd' ?_⟩))
  show wpAny _ _ (Builtin.List.listExtendWith (.ref s.heap.objs.size) (.ref l) (.ref s.heap.objs.size)) _ _ { s with heap := s.heap.push (seqObj "list" #[] 0) }
  unfold Builtin.List.listExtendWith
  have ho' : (s.heap.push (seqObj "list" #[] 0)).get? l = some o := Heap.get?_push_of_some _ ho
  refine wpAny_bind (wpAny_typeOf (T := "tuple") ⟨o, ho', hc⟩ ?_)
  have ht : (Value.type "tuple" == Value.type "tuple") = true := by rfl
  rw [if_pos (by rw [ht]; simp)]
  refine wpAny_bind (listItems_at ho' hd ?_)
  refine wpAny_bind (listItems_at (xs := #[]) (n := 0) (Heap.get?_push_size _ rfl) rfl ?_)
  rw [if_neg (by simp)]
  refine wpAny_bind (listUpdate_at (xs := #[]) (n := 0) (Heap.get?_push_size _ rfl) rfl ?_ (Nat.zero_le _) (by show (#[] ++ vs.toArray).size ≤ sizeLine + 1; simp only [Array.size_append, List.size_toArray, List.length_nil]; omega))
  refine wpAny_pure ?_
  show wpAny (model prog w) A (do
      let o ← load s.heap.objs.size
      match o.data with
      | .seq xs _ => pure xs.toList
      | _ => unsupported "internal:collect") Q E { s with heap := (s.heap.push (seqObj "list" #[] 0)).update s.heap.objs.size (Obj.mapSeq (· ++ vs.toArray)) }
  refine wpAny_bind (wpAny_load (get?_update_seq (Heap.get?_push_size _ rfl) _) ?_)
  show wpAny _ _ (pure ((#[] : Array Value) ++ vs.toArray).toList) Q E _
  rw [show ((#[] : Array Value) ++ vs.toArray).toList = vs by simp]
  exact wpAny_pure h
theorem sorted_row {l : Addr} {vs : List Value} {ltv : Value → Value → Bool} {Q : Value → Shared → Prop} (O : Swo ltv) (hl : s.heap.IsTuple l vs.toArray) (hz : vs.length ≤ sizeLine)
    (hS : 2 ≤ vs.length → ∀ (h₁ : Heap) (a : Addr), h₁.get? a = some (seqObj "list" vs.toArray 0) → (∀ b o, s.heap.get? b = some o → b ≠ a ∧ h₁.get? b = some o) → SortableO prog w A.in1.in1 { s with heap := h₁ } a vs ltv)
    (h : ∀ out : List Value, Srtd ltv out → Stb ltv out vs → Q (.ref (s.heap.objs.size + 1)) { s with heap := sortedAll s.heap vs out.toArray }) :
    wpAny (model prog w) A (call (.builtin "sorted") [.ref l]) Q E s := by
  refine Calls.call_function_entry kind_sorted plain_sorted entry_sorted (args_sorted1 _) ?_
  unfold Builtin.«sorted»
  refine wpAny_bind (m := checkCount "sorted" 1 1 _) (wpAny_pure ?_)
  refine wpAny_bind (collect_row hl ?_ hz)
  refine wpAny_bind (wpAny_newList ?_ hz)
  have hsz : ((s.heap.push (seqObj "list" #[] 0)).update s.heap.objs.size (Obj.mapSeq (· ++ vs.toArray))).objs.size = s.heap.objs.size + 1 := by
    rw [Heap.size_update, size_push']
  have hoL : (((s.heap.push (seqObj "list" #[] 0)).update s.heap.objs.size (Obj.mapSeq (· ++ vs.toArray))).push (seqObj "list" vs.toArray 0)).get? (s.heap.objs.size + 1) = some (seqObj "list" vs.toArray 0) := by
    rw [← hsz]; exact Heap.get?_push_size _ rfl
  have keep : ∀ b o, s.heap.get? b = some o → b ≠ s.heap.objs.size + 1 ∧ (((s.heap.push (seqObj "list" #[] 0)).update s.heap.objs.size (Obj.mapSeq (· ++ vs.toArray))).push (seqObj "list" vs.toArray 0)).get? b = some o := fun b o q => by
    have hlt : b < s.heap.objs.size := Heap.lt_size q
    refine ⟨Nat.ne_of_lt (Nat.lt_succ_of_lt hlt), Heap.get?_push_of_some _ ?_⟩
    rw [Heap.get?_update_ne _ _ _ _ (Nat.ne_of_lt hlt)]
    exact Heap.get?_push_of_some _ q
  show wpAny _ _ _ _ _ { s with heap := ((s.heap.push (seqObj "list" #[] 0)).update s.heap.objs.size (Obj.mapSeq (· ++ vs.toArray))).push (seqObj "list" vs.toArray 0) }
  rw [hsz]
  refine wpAny_bind (wpAny_holding (wpAny_call_entry slot_list_sort ⟨_, hoL, rfl⟩ entry_list_sort (list_sort_ord O hoL hz (fun h2 => hS h2 _ _ hoL keep) fun out hs hb => ⟨_, rfl, ?_⟩) (args_list_sort _)))
  exact wpAny_pure ⟨_, rfl, h out hs hb⟩
end
end ZSort
namespace Z
open PySem PySem.Spec PyProof.Rows L2
section
variable {X : Cx} {F W W1 : Hp}
theorem cr_sortedTI : CallR X (.builtin "sorted") (fun vs H Q => ∃ (a : Addr) (ns : List Int), vs = [V.ref a] ∧ SqT X.K H a (ns.map V.int) ∧ ∀ (ns' : List Int) (p : Addr), ns'.Perm ns → ns'.Pairwise (· ≤ ·) → H p = none → Q (.ref p) (upd H p (.lst (ns'.map V.int)))) := by
  intro pins s σ H vs us Q I r h
  obtain ⟨a, ns, rfl, hs, q⟩ := h
  obtain ⟨its, rv, hl, hz⟩ := I.tuple hs
  rw [Vals.ref1 r]
  have hi := rv.ints
  refine ZSort.sorted_row SrtO.swo_int hl (by rw [← rv.length]; exact hz) (fun h2 h₁ a' _ _ => SrtO.ints_sortable hi h2) fun out h1 h2 => ?_
  obtain ⟨k1, k2, k3⟩ := SrtO.ints_out hi h1 h2
  obtain ⟨ep, he'⟩ := PyProof.Rows.sortedAll_at s.heap its out.toArray
  have hlen : ((out.map SrtO.iv).map V.int).length ≤ sizeLine := by
    rw [List.length_map, k2.length_eq]
    rw [List.length_map] at hz
    exact hz
  exact ⟨.ref _, upd H (s.heap.objs.size + 1) (.lst ((out.map SrtO.iv).map V.int)), I.laid (t' := s.toks) (fun _ _ => PyProof.Rows.sortedAll_old) (Nat.le_succ _) ⟨hlen, out, ep, vals_of_ints k1, he'⟩, rfl, q _ _ k2 k3 (I.hok.fresh (Nat.le_succ _))⟩
theorem cl_sortedT {ns : List Int} : CalR X (.builtin "sorted") F W [eR true D.int ns] (eR false D.int (sortI ns)) := ⟨_, cr_sortedTI, fun vs F1 H1 _ r w Q q => by
  cases r with
  | cons r t =>
    cases t
    obtain ⟨l, rfl, h1, z⟩ := rep_ints r
    refine ⟨l, ns, rfl, sqo_of (t := true) w h1, fun ns' p hp hs hn => ?_⟩
    have e : ns' = sortI ns := PySem.W.os_sorted_mergeSort hp hs
    subst e
    exact q _ _ _ (Go.new w hn) (.sq (t := false) upd_same (Reps.of_ints _) (by rw [List.length_map, hp.length_eq]; exact z))⟩
theorem cl_sortedB {ns : List Int} : ∀ {t : Bool}, CalR X (.builtin "sorted") F W [eR t D.int ns] (eR false D.int (sortI ns))
  | true => cl_sortedT
  | false => cl_sortedI
end
theorem sortI_perm (ns : List Int) : (sortI ns).Perm ns := List.mergeSort_perm _ _
theorem sortI_mem {ns : List Int} {x : Int} : x ∈ sortI ns ↔ x ∈ ns := (sortI_perm ns).mem_iff
theorem sortI_len (ns : List Int) : (sortI ns).length = ns.length := (sortI_perm ns).length_eq
end Z
set_option Elab.async false
set_option linter.all false
set_option maxRecDepth 100000
set_option maxHeartbeats 1000000
namespace ZPl
open PySem PySem.Spec PySem.Calls PyProof.Rows L2 PySem.W
/-- a class with object's own __init__ -/
structure MkP (K : Frag) (C : Addr) : Prop where
  makes : makesIn K C = true
  init : findIn K (.ref C) "__init__" = some (some (.builtin "object.__init__"))
  kp : keepIn K (.ref C) = true
  top : mroIn K C (.type "object") = some true
section
variable {X : Cx} {C : Addr} {pins : List (Addr × Obj)} {σ : L2.St} {H : Hp} {s : Shared} {Q : VK}
theorem run_plain (M : MkP X.K C) (I : L2.Inv X pins σ H s) (h : ∀ x dx, H x = none → H dx = none → dx ≠ x → Q (.ref x) (upd (upd H dx (.own x)) x (.ins C dx []))) :
    wpAny (model X.prog X.w) X.A (call (.ref C) []) (EP X pins σ Q) X.xe s := by
  have hq := h (s.heap.objs.size + 1) s.heap.objs.size (I.hok.fresh (Nat.le_succ _)) (I.hok.fresh (Nat.le_refl _)) (Nat.ne_of_lt (Nat.lt_succ_self _))
  have I2 := Inv.made (C := C) I
  refine wpAny_call (make_map0 I.kIn M.makes M.init (fun self => Looks.of_pure (PySem.W.oi_bind _)) ?_)
  have ho : ((s.heap.push emptyDict).push (instObj C s.heap.objs.size)).get? (s.heap.objs.size + 1) = some (instObj C s.heap.objs.size) := by
    have e : (s.heap.push emptyDict).objs.size = s.heap.objs.size + 1 := Heap.size_push ..
    rw [← e]; exact Heap.get?_push_size _ rfl
  have t1 : Looks (model X.prog X.w) ((s.heap.push emptyDict).push (instObj C s.heap.objs.size)) (typeOf (.ref (s.heap.objs.size + 1))) (.ref C) := NwA.type_at ho rfl
  have t2 : Looks (model X.prog X.w) ((s.heap.push emptyDict).push (instObj C s.heap.objs.size)) (isInstance (.ref (s.heap.objs.size + 1)) (.type "object")) true := t1.andThen (looks_mroIn I2.kIn M.top)
  refine codeAny_call_builtin PySem.W.oi_plain PySem.W.entry_oi (@check_slot (model X.prog X.w) _ _ _ "object.__init__" "object" "__init__" (.ref (s.heap.objs.size + 1)) [] [] _ PySem.W.oi_kind PySem.W.oi_split t2 (PySem.W.oi_args _) ?_)
  rw [PySem.W.oi_run]
  exact wpAny_pure ⟨rfl, ⟨V.ref (s.heap.objs.size + 1), _, I2, rfl, hq⟩⟩
end
end ZPl
namespace Z
open PySem PySem.Spec PyProof.Rows L2
section
variable {X : Cx} {σ : L2.St} {F W : Hp} {C : Addr} {x : Str} {p pos : Pos}
theorem ev_plain (M : ZPl.MkP X.K C) (hm : X.mg x = some (.ref C)) (hg : Gl X x := by rfl) (hdb : (x == ("__debug__" : Str)) = false := by decide) : EvS X (.Call (.Name x p) [] [] pos) σ F W (.ob C []) W := fun H w Q q => by
  refine fun pins s I => wpAny_Call_Name_kw (ld_glob I hg hm ?_ hdb)
  refine PySem.W.callWith_K0 I.kIn M.kp (ZPl.run_plain M I fun a dx hx hd ne => ?_)
  have gm := Go.made (C := C) w hx hd ne
  have f1 := Go.freeze gm.st (p := a) upd_same
  have e1 : del (upd (upd W dx (.own a)) a (.ins C dx [])) a = upd W dx (.own a) := del_upd (by rw [upd_ne (Ne.symm ne)]; exact (w.fresh hx).2)
  rw [e1] at f1
  have f2 := Go.freeze f1.st (p := dx) upd_same
  rw [del_upd (w.fresh hd).2] at f2
  exact q _ _ _ (gm.trans (f1.trans f2)) (.ob (C := C) (dx := dx) (f2.ex _ _ upd_same) .nil)
end
end Z
set_option Elab.async false
set_option linter.all false
set_option maxRecDepth 100000
set_option maxHeartbeats 1000000
namespace Z
open PySem PySem.Spec PyProof.Rows L2
section
variable {X : Cx} {e a b a2 b2 c : Expr} {σ : L2.St} {F F1 W W1 W2 W3 : Hp} {d d1 d2 d3 : D} {q : Bool} {pos p t1p t2p tp : Pos} {A : AE} {rest body : List Stmt}
/-- l[i], l[j] = x, y -/
theorem bl_set2 {l : Addr} {vs : List V} {j1 j2 : Int} {n1 n2 kt : Nat} (he : EvS X e σ F W (.sq true [d1, d2]) W1) (ha : EvS X a σ F W1 (.ow l) W1) (hb : EvS X b σ F W1 (.int j1) W1) (hw : W1 l = some (.lst vs))
    (ha2 : ∀ v, EvS X a2 σ F (upd W1 l (.lst (vs.set n1 v))) (.ow l) (upd W1 l (.lst (vs.set n1 v)))) (hb2 : ∀ v, EvS X b2 σ F (upd W1 l (.lst (vs.set n1 v))) (.int j2) (upd W1 l (.lst (vs.set n1 v))))
    (e1 : j1 = (n1 : Int)) (h1 : n1 < vs.length) (e2 : j2 = (n2 : Int)) (h2 : n2 < vs.length) (kk : ∀ v1 v2 F1, Same F F1 → Rep F1 v1 d1 → Rep F1 v2 d2 → BlkS X rest σ F1 (upd W1 l (.lst ((vs.set n1 v1).set n2 v2))) A)
    (hg : ∀ v, assign (.Subscript a b t1p) X.env v = (do
      let ov ← holding [v] (eval a X.env)
      let iv ← holding [v, ov] (eval b X.env)
      standAt t1p
      holding [v, ov, iv] (setItem ov iv v)
      release [v, ov, iv] []) := by intro _; rfl)
    (hg2 : ∀ v, assign (.Subscript a2 b2 t2p) X.env v = (do
      let ov ← holding [v] (eval a2 X.env)
      let iv ← holding [v, ov] (eval b2 X.env)
      standAt t2p
      holding [v, ov, iv] (setItem ov iv v)
      release [v, ov, iv] []) := by intro _; rfl)
    (hs : swapsWithSole [.Tuple [.Subscript a b t1p, .Subscript a2 b2 t2p] kt tp] e pos.line X.env = pure false := by rfl) (hsw : swappedStores [.Tuple [.Subscript a b t1p, .Subscript a2 b2 t2p] kt tp] e X.env = pure none := by rfl)
    (hA : (assignEach [.Tuple [.Subscript a b t1p, .Subscript a2 b2 t2p] kt tp] X.env).map (·.2) = [assign (.Tuple [.Subscript a b t1p, .Subscript a2 b2 t2p] kt tp) X.env] := by rfl)
    (hn : (assignEach [.Subscript a b t1p, .Subscript a2 b2 t2p] X.env).length = 2 := by rfl) (hst : (assignEach [.Subscript a b t1p, .Subscript a2 b2 t2p] X.env).findIdx? (·.1) = none := by rfl)
    (hs1 : (assignEach [.Subscript a b t1p, .Subscript a2 b2 t2p] X.env).map (·.2) = assign (.Subscript a b t1p) X.env :: (assignEach [.Subscript a2 b2 t2p] X.env).map (·.2) := by rfl)
    (hs2 : (assignEach [.Subscript a2 b2 t2p] X.env).map (·.2) = assign (.Subscript a2 b2 t2p) X.env :: (assignEach [] X.env).map (·.2) := by rfl) (hc : X.calm = true := by rfl) :
    BlkS X (.Assign [.Tuple [.Subscript a b t1p, .Subscript a2 b2 t2p] kt tp] e pos :: rest) σ F W A := fun H w E ok =>
  tmB_of (pss_cons (ps_asg pe_tm (pg_tup hc (pgs_cons (pg_sub pe_tm pe_tm set_list hg) (pgs_cons (pg_sub pe_tm pe_tm set_list hg2) pgs_nil hs2) hs1) hn hst) hs hsw hA) pss_tm) (he H w _ fun v F1 H1 g r => by
    obtain ⟨l0, us, rfl, hl0, rs, z⟩ := r.sq_inv
    cases rs with
    | @cons u1 _ _ _ r1 rs =>
    cases rs with
    | @cons u2 _ _ _ r2 rs =>
    cases rs
    refine ⟨l0, _, rfl, sqo_of (t := true) g.st hl0, rfl, _, _, rfl, (ha.mono g.ex).then g fun v2 F2 H2 g2 g02 q2 => (hb.mono g02.ex).then g02 fun v3 F3 H3 g3 g03 q3 => ?_⟩
    cases q2; cases q3
    refine ⟨l, vs, j1, n1, rfl, rfl, g03.st.w l _ hw, ?_, ?_⟩
    · unfold ixN; subst e1; rw [if_pos (by omega), if_pos (by omega)]; simp
    have gp := g03.trans (Go.put (o := .lst (vs.set n1 u1)) g03.st hw)
    refine ⟨_, _, rfl, ((ha2 _).mono gp.ex).then gp fun v4 F4 H4 g4 g04 q4 => ((hb2 _).mono g04.ex).then g04 fun v5 F5 H5 g5 g05 q5 => ?_⟩
    cases q4; cases q5
    refine ⟨l, _, j2, n2, rfl, rfl, g05.st.w l _ upd_same, ?_, rfl, ?_⟩
    · unfold ixN; subst e2; rw [if_pos (by omega), if_pos (by rw [List.length_set]; omega)]; simp
    have gq := g05.trans (Go.put (o := .lst ((vs.set n1 u1).set n2 u2)) g05.st upd_same)
    rw [upd_upd] at gq
    exact (kk _ _ F5 g05.ex (r1.mono (g2.ex.trans (g3.ex.trans (g4.ex.trans g5.ex)))) (r2.mono (g2.ex.trans (g3.ex.trans (g4.ex.trans g5.ex))))).run ok gq)
/-- the script-reading cell -/
def WK (Wb : Hp) (dl sa : Addr) (k : Nat) : Hp := upd Wb dl (.lst [.ref sa, .int (k : Int)])
theorem WK_at {Wb : Hp} {dl sa : Addr} {k : Nat} : WK Wb dl sa k dl = some (.lst [.ref sa, .int (k : Int)]) := upd_same
theorem WK_next {Wb : Hp} {dl sa : Addr} {k : Nat} : upd (WK Wb dl sa k) dl (.lst [.ref sa, .int ((k : Int) + 1)]) = WK Wb dl sa (k + 1) := by unfold WK; rw [upd_upd]; rfl
/-- an if whose branch goes on -/
theorem bl_drop {l : Addr} {vs : List V} {ds : List D} {sts : List Stmt} (hw : W l = none) (r : Reps F vs ds) (hz : ds.length ≤ 100000) (k : ∀ F1, Same F F1 → BlkS X sts σ F1 W A) : BlkS X sts σ F (upd W l (.lst vs)) A :=
  bl_freeze upd_same r hz fun F1 e _ => by rw [del_upd hw]; exact k F1 e
end
section
variable {α β : Type} {t : α → Nat → Bool × Nat} {f : α → Nat → β × Nat}
theorem lcK_all {P : β → Prop} (h : ∀ x k, P (f x k).1) : ∀ (xs : List α) (k : Nat), ∀ y ∈ (lcK t f xs k).1, P y
  | [], _, y, hy => by simp [lcK] at hy
  | x :: xs, k, y, hy => by
    unfold lcK at hy
    split at hy
    · rcases List.mem_cons.mp hy with e | hy
      · rw [e]; exact h _ _
      · exact lcK_all h xs _ y hy
    · exact lcK_all h xs _ y hy
theorem lcK_len (ht : ∀ x k, (t x k).1 = true) : ∀ (xs : List α) (k : Nat), (lcK t f xs k).1.length = xs.length
  | [], _ => rfl
  | x :: xs, k => by
    unfold lcK
    rw [if_pos (ht x k), List.length_cons, List.length_cons, lcK_len ht xs]
theorem lcK_sub {f : α → Nat → α × Nat} (hf : ∀ x k, (f x k).1 = x) : ∀ (xs : List α) (k : Nat), ((lcK t f xs k).1).Sublist xs
  | [], _ => .slnil
  | x :: xs, k => by
    unfold lcK
    split
    · show List.Sublist (_ :: _) _
      rw [hf]; exact (lcK_sub hf xs _).cons_cons x
    · exact (lcK_sub hf xs _).cons x
end
end Z
set_option Elab.async false
set_option linter.all false
set_option maxRecDepth 100000
set_option maxHeartbeats 1000000
namespace Z
open PySem PySem.Spec PyProof.Rows L2
section
variable {X : Cx} {e a b : Expr} {σ : L2.St} {F F1 W W1 W2 : Hp} {q : Bool} {pos p : Pos} {C : Addr} {fds : List (Str × D)} {rel : Rel} {k : Nat} {ps : List Str}
theorem ev_notO (h : EvS X e σ F W (.ob C fds) W1) (Me : MeD X.prog X.w X.K X.mg X.base k C "__bool__" ps rel) (hr : Room k X.A) (hrel : ∀ F1, Same F F1 → rel [.ob C fds] F1 W1 (.bl q) W2) : EvS X (.UnaryOp .Not e pos) σ F W (.bl (!q)) W2 := fun H w Q qq pins s I =>
  UnaryOp_ (thn (h H w _ (fun v F1 H1 g r => (⟨F1, g, r⟩ : ∃ F1, Go F W H F1 W1 H1 ∧ Rep F1 v (.ob C fds))) pins s I) fun v s1 ⟨x, H1, I1, r1, F1, g, r⟩ => by
    obtain ⟨y, dx, vs, e1, h1, rf⟩ := id r.ob_inv
    subst e1
    cases r1
    exact not_of (run_bool (Q := fun c s' => EP X pins σ Q (.bool (!c)) s') Me hr rfl (hrel F1 g.ex) I1 g.st r fun F' H' s' g' I' => ⟨.bl (!q), H', I', rfl, qq _ F' H' (g.trans g') (.bl _)⟩))
end
theorem tuple_mul1 (l : Addr) (items : Array Value) (n : Nat) (dd : Option Addr) (sl : Array (Option Value)) (u : Tok) :
    Meets (Builtin.«tuple.__mul__» ⟨[.ref l, .int 1 u], []⟩) (fun _ R s => s.heap.get? l = some { cls := .type "tuple", dict := dd, data := .seq items n, slots := sl } ∧ R (.ok (.ret (Value.ref l))) s) :=
  .of_wp fun prog w A R s h => by
    obtain ⟨hp, g, d, tk, os⟩ := s
    obtain ⟨hl, h⟩ := h
    have f1 := AutoSeq1.idx_int
    have c1 : (items.isEmpty || (1 : Int) == 1) = true := by rw [Bool.or_eq_true_iff]; exact .inr rfl
    wp_walk using wpAny_loadPart' hl
    repeat (first
      | (refine wpAny_ite_true (decide_eq_true (by rw [c1])) ?_; wp_walk using wpAny_loadPart' hl))
    all_goals first | exact ⟨_, rfl, h⟩ | skip
section
variable {X : Cx} {e a b : Expr} {σ : L2.St} {F F1 W W1 W2 : Hp} {q : Bool} {pos p : Pos}
theorem op_rep1 : OpR X (binaryOp .Mult) (fun x y H Q => ∃ l xs, x = .ref l ∧ y = .int 1 ∧ SqT X.K H l xs ∧ Q (.ref l) H) := by
  intro pins s σ H x y v u Q I rx ry h
  obtain ⟨l, xs, rfl, rfl, hT, q⟩ := h
  cases rx
  obtain ⟨t, rfl⟩ := ry
  obtain ⟨its, r, ⟨⟨cls, dd, data, sl⟩, ho, hc, n, hd⟩, hs⟩ := I.tuple hT
  simp only at hc hd
  subst hc hd
  exact wpAny_binaryOp_repeat_ref (T := "tuple") (U := "int") (by decide) ⟨_, ho, rfl⟩ (fun s' => typeIs_int s' 1 t) noFill_tuple_mul F.fills_int_mul F.slot_int_rmul repeat_tuple F.slot_int_index.lookup
    (call_meets F.slot_int_rmul (typeIs_int s 1 t) F.entry_int_rmul (F.args_int_rmul_2 _ _) (int_rmul_tuple 1 t l its.toArray n dd sl)
      ⟨ho, rfl, ⟨_, ho, rfl⟩, call_meets F.slot_tuple_mul ⟨_, ho, rfl⟩ F.entry_tuple_mul (F.args_tuple_mul_2 _ _) (tuple_mul1 l its.toArray n dd sl t) ⟨ho, ⟨.ref l, H, I, rfl, q⟩⟩⟩)
theorem ev_repT {α : Type} {f : α → D} {xs : List α} {m : Int} (ha : EvS X a σ F W (eR true f xs) W1) (hb : EvS X b σ F W1 (.int m) W2) (hm : 1 ≤ m) (hk : m ≤ 1000) (hz : xs.length * m.toNat ≤ 100000) (hz2 : xs.length ≤ 1000) (hne : xs ≠ []) : EvS X (.BinOp a .Mult b pos) σ F W (eR true f (List.replicate m.toNat xs).flatten) W2 := by
  by_cases h1 : m = 1
  · subst h1
    have e : (List.replicate (1 : Int).toNat xs).flatten = xs := by simp
    rw [e]
    refine ev_op op_rep1 ha hb fun v1 v2 F1 H1 _ r1 r2 w Q q => ?_
    obtain ⟨l, vs, rfl, h1, s1, z1⟩ := id r1.tup_inv
    cases r2
    exact ⟨l, vs, rfl, rfl, sqo_of (t := true) w h1, q _ F1 H1 (Go.refl w) r1⟩
  · refine ev_op op_repT ha hb fun v1 v2 F1 H1 _ r1 r2 w Q q => ?_
    obtain ⟨l, vs, rfl, h1, s1, z1⟩ := id r1.tup_inv
    cases r2
    have hl := s1.length
    rw [List.length_map] at hl
    refine ⟨l, m, vs, rfl, rfl, sqo_of (t := true) w h1, ?_, by omega, hk, by omega, fun p hp => ?_⟩
    · intro e; rw [e] at hl; exact hne (List.eq_nil_of_length_eq_zero hl.symm)
    · have rr := s1.rep m.toNat
      have e : (List.replicate m.toNat (xs.map f)).flatten = (List.replicate m.toNat xs).flatten.map f := by rw [List.map_flatten, List.map_replicate]
      rw [e] at rr
      exact q _ _ _ (Go.new w hp) (Go.rep_new (t := true) w hp rr (by rw [List.length_map, List.length_flatten, List.map_replicate, List.sum_replicate_nat]; rw [Nat.mul_comm]; exact hz))
end
end Z
set_option Elab.async false
set_option linter.all false
set_option maxRecDepth 100000
set_option maxHeartbeats 3000000
namespace Z
open PySem PySem.Spec PyProof.Rows L2
/-- a set just made -/
abbrev nS (w : World) : Obj := ⟨.type "set", none, .set #[] 0 (.fresh 0 0 (!w.params.followText "set-order")), #[]⟩
section
variable {P : Program} {w : World} {A : Around} {E : Value → Shared → Prop} {s : Shared}
/-- set(l) of a list of ints -/
theorem call_setL {l : Addr} {its : Array Value} (ns : List Int) {Q : Value → Shared → Prop} (hh : A.handled = none) (hl : s.heap.IsList l its) (hit : IntsAre its.toList ns) (hb : ns.length + 1 < scanBound)
    (k : ∀ (h' : Heap) (tk c : Nat), SetR w h' s.heap.objs.size (fun j => decide (j ∈ ns)) c → c ≤ ns.length → (∀ b o, s.heap.get? b = some o → h'.get? b = some o) → Q (.ref s.heap.objs.size) { s with heap := h', toks := tk }) :
    wpAny (model P w) A (call (.type "set") [.ref l]) Q E s := by
  have hz : its.size = ns.length := by have q := hit.length; rwa [Array.length_toList] at q
  obtain ⟨c0, tl0, mro0⟩ := F.called_set.mro
  have made0 := F.called_set.made
  have sub0 := F.called_set.sub
  refine wpAny_call (codeAny_of_tree ?_)
  show wpAny _ _ (callAny (.type "set") _) _ _ _
  refine wpAny_pure ⟨Code.quiet_builtin _ (by decide +kernel), codeAny_builtin F.entry_type_call ?_⟩
  rw [Around.under_plain (weight_type_call_type "set" [.ref l] []) rfl]
  have nt0 := F.called_set.notType
  have cc0 := F.called_set.canCreate
  have tc0 := F.typeCall_set_1 (.ref l)
  repeat (any_goals (first | assumption | wp_step))
  refine codeAny_mono (code_set_led1 (.ref l) (E := E) (Q₁ := fun obj s₁ => obj = .ref s.heap.objs.size ∧ s₁ = { s with heap := s.heap.push (nS w) }) ⟨rfl, rfl⟩) fun r s₁ hr => ?_
  rcases r with e | fl
  · exact hr
  cases fl with
  | ret obj =>
    obtain ⟨rfl, rfl⟩ := hr
    have hS : (s.heap.push (nS w)).get? s.heap.objs.size = some (nS w) := Heap.get?_push_size _ rfl
    have hT : Shared.TypeIs { s with heap := s.heap.push (nS w) } (.ref s.heap.objs.size) "set" := ⟨_, hS, rfl⟩
    have il0 := F.called_set.init.lookup
    have ib0 := F.called_set.init.bind (.ref s.heap.objs.size)
    repeat (any_goals (first | assumption | wp_step))
    refine codeAny_mono (codeAny_call_builtin (R := wants (fun r s₂ => r = .none ∧ ∃ h' tk c, s₂ = { s with heap := h', toks := tk } ∧ SetR w h' s.heap.objs.size (fun j => decide (j ∈ ns)) c ∧ c ≤ ns.length ∧ (∀ b o, s.heap.get? b = some o → h'.get? b = some o)) E) F.called_set.init.plain F.entry_set_init (check_set_init_1 hT ?_)) fun r₂ s₂ hr₂ => ?_
    · obtain ⟨⟨ocls, odict, odata, oslots⟩, ho, hcl, nl, hdl⟩ := hl
      dsimp only at hcl hdl
      subst hcl hdl
      have ho' : (s.heap.push (nS w)).get? l = some ⟨.type "list", odict, .seq its nl, oslots⟩ := Heap.get?_push_of_some _ ho
      have sl1 := F.sub_list_set
      have sl2 := F.sub_list_frozenset
      have ne1 : (Value.type "list" == Value.type "dict") = false := by decide
      have il : (s.heap.push (nS w)).IsList l its := ⟨_, ho', rfl, nl, rfl⟩
      unfold Builtin.«set.__init__» noKeywords Builtin.Frozenset.updateFrom
      generalize hPI : pyIter = PI
      wp_walk
      subst hPI
      refine wpAny_pyIter_list il (wpAny_bind (wpAny_runValue ?_))
      have lS : l < s.heap.objs.size := Heap.lt_size ho
      have h3 : A.in1.in1.in1.handled = none := by simp [hh]
      have sz : (s.heap.push (nS w)).objs.size = s.heap.objs.size + 1 := Heap.size_push ..
      have nI : l ≠ (s.heap.push (nS w)).objs.size := Nat.ne_of_lt (by rw [sz]; exact Nat.lt_succ_of_lt lS)
      have nF : s.heap.objs.size ∉ [(s.heap.push (nS w)).objs.size, l] := by
        simp only [List.mem_cons, List.not_mem_nil, or_false, not_or, sz]
        exact ⟨Nat.ne_of_lt (Nat.lt_succ_self _), Nat.ne_of_gt lS⟩
      have val : ∀ (i : Nat) (v : Value), its[i]? = some v → ∃ k t, ns[i]? = some k ∧ v = .int k t := fun i v hv => by
        have hi : i < ns.length := hz ▸ (Array.getElem?_eq_some_iff.mp hv).1
        obtain ⟨t, e⟩ := PyProof.Rows.IntsAre.int_at hit i v (by rw [Array.getElem?_toList]; exact hv)
        exact ⟨ns[i], t, List.getElem?_eq_getElem hi, by rw [e, List.getD_eq_getElem?_getD, List.getElem?_eq_getElem hi]; rfl⟩
      refine set_update_ints ((Walks.list h3 _ l nI its).toS) s.heap.objs.size nF ns hz hb val (its.size - 0) 0 _ (by omega) (Nat.zero_le _) ⟨⟨_, Heap.get?_push_size _ rfl, rfl, rfl⟩, (il.push _)⟩ ?a1 ?a2
      case a1 => exact ⟨0, Nat.le_refl 0, setR_new_at (Heap.get?_push_of_some _ hS)⟩
      case a2 =>
        intro s' c' hm hc' hS'
        obtain ⟨h', g2, d', tk', os'⟩ := s'
        obtain rfl : g2 = s.gens := hm.gens
        obtain rfl : d' = s.drawn := hm.drawn
        obtain rfl : os' = s.os := hm.os
        show wpAny _ _ _ _ _ _
        refine wpAny_pure ?_
        show wpAny _ _ (ret Value.none) _ _ _
        refine wpAny_pure ⟨rfl, h', tk', c', rfl, hS', hz ▸ hc', fun b o e => ?_⟩
        have b0 : b < s.heap.objs.size := Heap.lt_size e
        refine hm.heap b o ?_ (Heap.get?_push_of_some _ (Heap.get?_push_of_some _ e))
        simp only [List.mem_cons, List.not_mem_nil, or_false, not_or, sz]
        exact ⟨Nat.ne_of_lt b0, Nat.ne_of_lt (Nat.lt_succ_of_lt b0)⟩
    · rcases r₂ with e | fl₂
      · exact hr₂
      cases fl₂ with
      | ret r =>
        obtain ⟨rfl, h', tk, c', rfl, hS', hc', hk'⟩ := hr₂
        repeat (any_goals (first | assumption | wp_step))
        exact k _ _ _ hS' hc' hk'
      | _ => exact hr₂.elim
  | _ => exact hr.elim
end
/-- each once -/
def ded : List Int → List Int
  | [] => []
  | x :: xs => if x ∈ xs then ded xs else x :: ded xs
theorem mem_ded {y : Int} : ∀ {xs : List Int}, y ∈ ded xs ↔ y ∈ xs
  | [] => Iff.rfl
  | x :: xs => by
    unfold ded
    split
    · rename_i h
      rw [mem_ded, List.mem_cons]
      exact ⟨.inr, fun q => q.elim (fun e => e ▸ h) id⟩
    · rw [List.mem_cons, List.mem_cons, mem_ded]
theorem ded_nd : ∀ xs : List Int, (ded xs).Nodup
  | [] => List.nodup_nil
  | x :: xs => by
    unfold ded
    split
    · exact ded_nd xs
    · rename_i h
      exact List.nodup_cons.mpr ⟨fun q => h (mem_ded.mp q), ded_nd xs⟩
theorem ded_len : ∀ xs : List Int, (ded xs).length ≤ xs.length
  | [] => Nat.le_refl _
  | x :: xs => by
    unfold ded
    have := ded_len xs
    split <;> simp only [List.length_cons] <;> omega
/-- sorted(set(..)) -/
def sset (ns : List Int) : List Int := sortI (ded ns)
theorem asc_eq : ∀ {l m : List Int}, l.Pairwise (· < ·) → m.Pairwise (· < ·) → (∀ k, k ∈ l ↔ k ∈ m) → l = m
  | [], [], _, _, _ => rfl
  | [], y :: m, _, _, h => absurd ((h y).mpr List.mem_cons_self) (by simp)
  | x :: l, [], _, _, h => absurd ((h x).mp List.mem_cons_self) (by simp)
  | x :: l, y :: m, hl, hm, h => by
    obtain ⟨l1, l2⟩ := List.pairwise_cons.mp hl
    obtain ⟨m1, m2⟩ := List.pairwise_cons.mp hm
    have e : x = y := by
      rcases List.mem_cons.mp ((h x).mp List.mem_cons_self) with e | e
      · exact e
      rcases List.mem_cons.mp ((h y).mpr List.mem_cons_self) with e2 | e2
      · exact e2.symm
      have a := m1 x e
      have b := l1 y e2
      omega
    subst e
    rw [asc_eq l2 m2 fun k => ?_]
    constructor
    · intro q
      rcases List.mem_cons.mp ((h k).mp (List.mem_cons_of_mem _ q)) with e | e
      · have := l1 k q; omega
      · exact e
    · intro q
      rcases List.mem_cons.mp ((h k).mpr (List.mem_cons_of_mem _ q)) with e | e
      · have := m1 k q; omega
      · exact e
end Z
set_option Elab.async false
set_option linter.all false
set_option maxRecDepth 100000
set_option maxHeartbeats 1000000
namespace Z
open PySem PySem.Spec PyProof.Rows L2
theorem sortI_le (ns : List Int) : (sortI ns).Pairwise (· ≤ ·) := by
  have h := List.pairwise_mergeSort (le := fun x y : Int => decide (x ≤ y)) (fun a b c h1 h2 => by simp at *; omega) (fun a b => by simp; omega) ns
  exact h.imp fun q => of_decide_eq_true q
theorem asc_sset (ns : List Int) : (sset ns).Pairwise (· < ·) := L2.lt_of_le_nodup _ (sortI_le _) ((sortI_perm _).nodup_iff.mpr (ded_nd ns))
theorem mem_sset {ns : List Int} {k : Int} : k ∈ sset ns ↔ k ∈ ns := by unfold sset; rw [sortI_mem, mem_ded]
theorem sset_len (ns : List Int) : (sset ns).length ≤ ns.length := by unfold sset; rw [sortI_len]; exact ded_len ns
section
variable {X : Cx} {a : Expr} {σ : L2.St} {F W W1 : Hp} {pos p p2 : Pos}
def rSetL (K : PySem.W.Frag) (w : World) : List V → Hp → VK → Prop := fun xs H Q => ∃ (l : Addr) (ns : List Int), xs = [.ref l] ∧ SqL K H l (ns.map V.int) ∧ ns.length + 1 < scanBound ∧ ∀ p c, c ≤ ns.length → H p = none → Q (.ref p) (upd H p (SetO w p (fun j => decide (j ∈ ns)) c))
theorem cr_setL (hc : X.calm = true) : CallR X (.type "set") (rSetL X.K X.w) := by
  intro pins s σ H xs us Q I r h
  obtain ⟨l, ns, rfl, hl, hz, q⟩ := h
  rw [Vals.ref1 r]
  obtain ⟨its, rv, pl, hz2⟩ := I.list hl
  refine call_setL ns (I.ok.hd hc) pl.isList (by simpa using RZ.intsAre_vals rv) hz fun h' tk c hS hcl hk => ?_
  exact ⟨.ref _, _, I.laid (t' := tk) hk (Nat.le_refl _) (setO_new hS), rfl, q _ c hcl (I.hok.fresh (Nat.le_refl _))⟩
theorem ev_sortset {ns : List Int} {q' : Pos} (hm : X.mg "sorted" = none) (hm2 : X.mg "set" = none) (h : EvS X a σ F W (eR false D.int ns) W1) (hz : ns.length < 64) (hg : Gl X "sorted" := by rfl) (hg2 : Gl X "set" := by rfl) (hc : X.calm = true := by rfl)
    (na : starEach [a] X.env = (false, eval a X.env) :: starEach [] X.env := by rfl) (na2 : starEach [.Call (.Name "set" p2) [a] [] q'] X.env = (false, eval (.Call (.Name "set" p2) [a] [] q') X.env) :: starEach [] X.env := by rfl) :
    EvS X (.Call (.Name "sorted" p) [.Call (.Name "set" p2) [a] [] q'] [] pos) σ F W (eR false D.int (sset ns)) W1 := fun H w Q q =>
  tm_of (pe_callB (cr_sortedSet hc) hg hm (by decide +kernel) (pa_cons (pe_callTy (cr_setL hc) hg2 hm2 (by decide +kernel) (pa_cons pe_tm pa_nil na) (by decide) (by decide) na rfl) pa_nil na2) (by decide) (by decide) na2 rfl)
    (h H w _ fun v F1 H1 g r => by
    obtain ⟨l, rfl, h1, z⟩ := rep_ints r
    refine ⟨l, ns, rfl, SqL.of (g.st.lst h1), by unfold scanBound; omega, fun p1 c hc1 hp => ?_⟩
    have g1 := g.trans (Go.new (o := SetO X.w p1 (fun j => decide (j ∈ ns)) c) g.st hp)
    refine ⟨p1, _, c, rfl, upd_same, by omega, fun ns' p3 asc hmem hl hp3 => ?_⟩
    have e : ns' = sset ns := asc_eq asc (asc_sset ns) fun k => by rw [hmem, mem_sset]; simp
    subst e
    exact q _ _ _ (g1.trans (Go.new g1.st hp3)) (.sq (t := false) upd_same (Reps.of_ints _) (by rw [List.length_map]; have := sset_len ns; omega)))
end
end Z
set_option Elab.async false
set_option linter.all false
set_option maxRecDepth 100000
set_option maxHeartbeats 1000000
namespace Z
open PySem PySem.Spec PyProof.Rows L2
/-! ## tables -/
section
variable {κ α β : Type} [DecidableEq κ]
def tGet : List (κ × α) → κ → Option α
  | [], _ => none
  | p :: r, k => if p.1 = k then some p.2 else tGet r k
def tSet : List (κ × α) → κ → α → List (κ × α)
  | [], _, _ => []
  | p :: r, k, v => (if p.1 = k then (p.1, v) else p) :: tSet r k v
def tPut (t : List (κ × α)) (k : κ) (v : α) : List (κ × α) := if (tGet t k).isSome = true then tSet t k v else t ++ [(k, v)]
def tOf (t : List (κ × α)) : List (κ × α) := t.foldl (fun acc p => tPut acc p.1 p.2) []
theorem tGet_set (t : List (κ × α)) (k j : κ) (v : α) : tGet (tSet t k v) j = if j = k then (tGet t j).map fun _ => v else tGet t j := by
  induction t with
  | nil => simp [tGet, tSet]
  | cons p r ih =>
    unfold tSet tGet
    by_cases h1 : p.1 = k
    · rw [if_pos h1]
      by_cases h2 : j = k
      · rw [if_pos (show (p.1, v).1 = j by rw [h1, h2]), if_pos h2, if_pos (by rw [h1, h2])]; rfl
      · rw [if_neg h2, if_neg (show ¬ (p.1, v).1 = j by rw [h1]; exact fun e => h2 e.symm), if_neg (by rw [h1]; exact fun e => h2 e.symm), ih, if_neg h2]
    · rw [if_neg h1]
      by_cases h3 : p.1 = j
      · rw [if_pos h3, if_neg (fun e => h1 (h3.trans e)), if_pos h3]
      · rw [if_neg h3, if_neg h3, ih]
theorem tGet_snoc (t : List (κ × α)) (k j : κ) (v : α) : tGet (t ++ [(k, v)]) j = (tGet t j).or (if k = j then some v else none) := by
  induction t with
  | nil => simp [tGet]
  | cons p r ih =>
    rw [List.cons_append]
    unfold tGet
    split
    · rfl
    · exact ih
theorem tGet_put (t : List (κ × α)) (k j : κ) (v : α) : tGet (tPut t k v) j = if j = k then some v else tGet t j := by
  unfold tPut
  split
  · rename_i h
    rw [tGet_set]
    split
    · rename_i e; subst e
      obtain ⟨x, hx⟩ := Option.isSome_iff_exists.mp h
      rw [hx]; rfl
    · rfl
  · rename_i h
    rw [tGet_snoc]
    have h' : tGet t k = none := by cases e : tGet t k with
      | none => rfl
      | some x => rw [e] at h; simp at h
    by_cases e : j = k
    · subst e; rw [h']; simp
    · rw [if_neg e, if_neg (fun q => e q.symm), Option.or_none]
theorem tSet_len (t : List (κ × α)) (k : κ) (v : α) : (tSet t k v).length = t.length := by
  induction t with
  | nil => rfl
  | cons p r ih => simp only [tSet, List.length_cons, ih]
theorem tPut_len (t : List (κ × α)) (k : κ) (v : α) : (tPut t k v).length ≤ t.length + 1 := by
  unfold tPut
  split
  · rw [tSet_len]; omega
  · rw [List.length_append]; exact Nat.le_refl _
end
/-- what a key is, as the model's tables have it and as data -/
structure KEn {κ : Type} (kf : κ → Key) (kd : κ → D) : Prop where
  inj : ∀ a b, kf a = kf b → a = b
  rep : ∀ (F : Hp) (v : V) (k : κ), Rep F v (kd k) → v = kV (kf k)
  of : ∀ (F : Hp) (k : κ), Rep F (kV (kf k)) (kd k)
theorem keI : KEn (κ := Int) Sum.inl D.int := ⟨fun _ _ h => Sum.inl.inj h, fun _ _ _ r => by cases r; rfl, fun _ k => .int k⟩
theorem keS : KEn (κ := Str) Sum.inr D.str := ⟨fun _ _ h => Sum.inr.inj h, fun _ _ _ r => by cases r; rfl, fun _ k => .str k⟩
/-- a table as a dict -/
def eTm {κ α : Type} (kf : κ → Key) (g : α → D) (t : List (κ × α)) : List (Key × D) := t.map fun p => (kf p.1, g p.2)
def eT {κ α : Type} (kf : κ → Key) (g : α → D) (t : List (κ × α)) : D := .dk (eTm kf g t)
section
variable {κ α : Type} [DecidableEq κ] {kf : κ → Key} {kd : κ → D} {g : α → D}
theorem eTm_get (hi : ∀ a b, kf a = kf b → a = b) (t : List (κ × α)) (k : κ) : tGet (eTm kf g t) (kf k) = (tGet t k).map g := by
  induction t with
  | nil => rfl
  | cons p r ih =>
    show tGet ((kf p.1, g p.2) :: eTm kf g r) (kf k) = _
    unfold tGet
    by_cases h : p.1 = k
    · rw [if_pos (show (kf p.1, g p.2).1 = kf k by rw [h]), if_pos h]; rfl
    · rw [if_neg (fun e => h (hi _ _ e)), if_neg h, ih]
theorem eTm_set (hi : ∀ a b, kf a = kf b → a = b) (t : List (κ × α)) (k : κ) (v : α) : tSet (eTm kf g t) (kf k) (g v) = eTm kf g (tSet t k v) := by
  induction t with
  | nil => rfl
  | cons p r ih =>
    show tSet ((kf p.1, g p.2) :: eTm kf g r) (kf k) (g v) = eTm kf g ((if p.1 = k then (p.1, v) else p) :: tSet r k v)
    rw [show tSet ((kf p.1, g p.2) :: eTm kf g r) (kf k) (g v) = (if kf p.1 = kf k then (kf p.1, g v) else (kf p.1, g p.2)) :: tSet (eTm kf g r) (kf k) (g v) from rfl, ih]
    by_cases h : p.1 = k
    · rw [if_pos (by rw [h]), if_pos h]; rfl
    · rw [if_neg (fun e => h (hi _ _ e)), if_neg h]; rfl
theorem eTm_put (hi : ∀ a b, kf a = kf b → a = b) (t : List (κ × α)) (k : κ) (v : α) : tPut (eTm kf g t) (kf k) (g v) = eTm kf g (tPut t k v) := by
  unfold tPut
  rw [eTm_get hi, eTm_set hi, Option.isSome_map]
  split
  · rfl
  · unfold eTm; rw [List.map_append]; rfl
theorem eTm_len (t : List (κ × α)) : (eTm kf g t).length = t.length := List.length_map ..
end
section
variable {F : Hp}
theorem valV_t : ∀ {vs : List (Key × V)} (k : Key), valV vs k = tGet vs k
  | [], k => rfl
  | p :: r, k => by
    unfold tGet
    by_cases h : p.1 = k
    · rw [if_pos h, valV_pos h]
    · rw [if_neg h, valV_neg h, valV_t]
theorem putK_t (vs : List (Key × V)) (k : Key) (v : V) : putK vs k v = tPut vs k v := by
  unfold putK tPut
  rw [valV_any, valV_t]
  have e : ∀ l : List (Key × V), (l.map fun kv => if kv.1 = k then (kv.1, v) else kv) = tSet l k v := fun l => by
    induction l with
    | nil => rfl
    | cons p r ih => rw [List.map_cons, ih]; rfl
  rw [e]
theorem RepK.get {k : Key} : ∀ {vs : List (Key × V)} {ds : List (Key × D)}, RepK F vs ds → (tGet vs k = none ∧ tGet ds k = none) ∨ ∃ v d, tGet vs k = some v ∧ tGet ds k = some d ∧ Rep F v d
  | _, _, .nil => .inl ⟨rfl, rfl⟩
  | _, _, .cons (k := j) (v := v) (d := d) r t => by
    unfold tGet
    by_cases h : j = k
    · rw [if_pos h, if_pos h]; exact .inr ⟨v, d, rfl, rfl, r⟩
    · rw [if_neg h, if_neg h]; exact t.get
theorem RepK.set {k : Key} {v : V} {d : D} (q : Rep F v d) : ∀ {vs : List (Key × V)} {ds : List (Key × D)}, RepK F vs ds → RepK F (tSet vs k v) (tSet ds k d)
  | _, _, .nil => .nil
  | _, _, .cons (k := j) r t => by
    unfold tSet
    by_cases h : j = k
    · rw [if_pos h, if_pos h]; exact .cons q (t.set q)
    · rw [if_neg h, if_neg h]; exact .cons r (t.set q)
theorem RepK.append : ∀ {vs us : List (Key × V)} {ds es : List (Key × D)}, RepK F vs ds → RepK F us es → RepK F (vs ++ us) (ds ++ es)
  | _, _, _, _, .nil, s => s
  | _, _, _, _, .cons r t, s => .cons r (t.append s)
theorem RepK.put {k : Key} {v : V} {d : D} {vs : List (Key × V)} {ds : List (Key × D)} (h : RepK F vs ds) (q : Rep F v d) : RepK F (tPut vs k v) (tPut ds k d) := by
  unfold tPut
  rcases h.get (k := k) with ⟨e1, e2⟩ | ⟨v0, d0, e1, e2, _⟩
  · rw [e1, e2]; exact h.append (.cons q .nil)
  · rw [e1, e2]; exact h.set q
theorem RepK.len : ∀ {vs : List (Key × V)} {ds : List (Key × D)}, RepK F vs ds → vs.length = ds.length
  | _, _, .nil => rfl
  | _, _, .cons _ t => congrArg (· + 1) t.len
theorem Rep.dk_inv {v : V} {ds : List (Key × D)} (r : Rep F v (.dk ds)) : ∃ a vs, v = .ref a ∧ Rd F a (.dK vs) ∧ RepK F vs ds ∧ ds.length ≤ 100000 := by
  cases r with
  | dk h r z => exact ⟨_, _, rfl, h, r, z⟩
end
section
variable {X : Cx} {e o a b c i f tg iter : Expr} {es : List Expr} {σ : L2.St} {F F1 W W1 W2 W3 : Hp} {d d1 d2 : D} {pos p apos tpos : Pos} {n : Nat}
variable {κ α : Type} [DecidableEq κ] {kf : κ → Key} {kd : κ → D} {g : α → D} {t : List (κ × α)} {k : κ} {x y : α}
theorem room_u (hr : Room n X.A) : X.A.units + 1 < cLine := by have := hr.un; omega
theorem dget_of {H : Hp} {v vy : V} (ke : KEn kf kd) (w : Wd F W H) (r : Rep F v (eT kf g t)) (ry : Rep F vy (kd k)) : ∃ a, v = .ref a ∧ IsD H a ∧ ((tGet t k = none ∧ DGet H a vy none) ∨ ∃ x u, tGet t k = some x ∧ DGet H a vy (some u) ∧ Rep F u (g x)) := by
  obtain ⟨a, vs, rfl, h1, s1, z⟩ := Rep.dk_inv r
  have hk := ke.rep F vy k ry
  refine ⟨a, rfl, .inl ⟨vs, w.rdK h1⟩, ?_⟩
  rcases s1.get (k := kf k) with ⟨e1, e2⟩ | ⟨v0, d0, e1, e2, q⟩
  · rw [eTm_get ke.inj, Option.map_eq_none_iff] at e2
    exact .inl ⟨e2, .inl ⟨vs, kf k, w.rdK h1, hk, by rw [valV_t, e1]⟩⟩
  · rw [eTm_get ke.inj, Option.map_eq_some_iff] at e2
    obtain ⟨x, hx, rfl⟩ := e2
    exact .inr ⟨x, v0, hx, .inl ⟨vs, kf k, w.rdK h1, hk, by rw [valV_t, e1]⟩, q⟩
/-- d[k] -/
theorem ev_tsub (ke : KEn kf kd) (hr : Room n X.A) (ha : EvS X o σ F W (eT kf g t) W1) (hb : EvS X i σ F W1 (kd k) W2) (hx : tGet t k = some x) (hs : NoSl i := by intro _ _; rfl) : EvS X (.Subscript o i pos) σ F W (g x) W2 := fun H w Q q =>
  tm_of (pe_dget (room_u hr) pe_tm pe_tm hs) (ha H w _ fun v1 F1 H1 g1 r1 => (hb.mono g1.ex).then g1 fun v2 F2 H2 g2 g02 r2 => by
    obtain ⟨a, rfl, _, h⟩ := dget_of ke g02.st (r1.mono g2.ex) r2
    rcases h with ⟨h, _⟩ | ⟨x', u, h, hg, ru⟩
    · rw [hx] at h; cases h
    · rw [hx] at h; cases h
      exact ⟨a, u, rfl, hg, q u F2 H2 g02 ru⟩)
/-- k in d -/
theorem ev_tin (ke : KEn kf kd) (hr : Room n X.A) (hb : EvS X a σ F W (kd k) W1) (ho : EvS X o σ F W1 (eT kf g t) W2) (hm : behindInMarks .In o = false := by first | exact nomark _ | rfl) : EvS X (.Compare a [.In] [o] pos) σ F W (.bl (tGet t k).isSome) W2 := fun H w Q q =>
  tm_of (pe_cmp (pc_din (room_u hr) pe_tm pe_tm) hm) (hb H w _ fun v1 F1 H1 g1 r1 => (ho.mono g1.ex).then g1 fun v2 F2 H2 g2 g02 r2 => by
    obtain ⟨a, rfl, _, h⟩ := dget_of ke g02.st r2 (r1.mono g2.ex)
    rcases h with ⟨h, hg⟩ | ⟨x', u, h, hg, ru⟩
    · exact ⟨a, none, rfl, hg, by rw [h] at q; exact q _ F2 H2 g02 (.bl _)⟩
    · exact ⟨a, some u, rfl, hg, by rw [h] at q; exact q _ F2 H2 g02 (.bl _)⟩)
theorem ev_tni (ke : KEn kf kd) (hr : Room n X.A) (hb : EvS X a σ F W (kd k) W1) (ho : EvS X o σ F W1 (eT kf g t) W2) (hm : behindInMarks .NotIn o = false := by first | exact nomark _ | rfl) : EvS X (.Compare a [.NotIn] [o] pos) σ F W (.bl (!(tGet t k).isSome)) W2 := fun H w Q q =>
  tm_of (pe_cmp (pc_dnotin (room_u hr) pe_tm pe_tm) hm) (hb H w _ fun v1 F1 H1 g1 r1 => (ho.mono g1.ex).then g1 fun v2 F2 H2 g2 g02 r2 => by
    obtain ⟨a, rfl, _, h⟩ := dget_of ke g02.st r2 (r1.mono g2.ex)
    rcases h with ⟨h, hg⟩ | ⟨x', u, h, hg, ru⟩
    · exact ⟨a, none, rfl, hg, by rw [h] at q; exact q _ F2 H2 g02 (.bl _)⟩
    · exact ⟨a, some u, rfl, hg, by rw [h] at q; exact q _ F2 H2 g02 (.bl _)⟩)
theorem et_tin (ke : KEn kf kd) (hr : Room n X.A) (hb : EvS X a σ F W (kd k) W1) (ho : EvS X o σ F W1 (eT kf g t) W2) (hm : behindInMarks .In o = false := by first | exact nomark _ | rfl) : EvT X (.Compare a [.In] [o] pos) σ F W (tGet t k).isSome W2 := fun H w Q q =>
  tmT_of (pt_cmp (pc_din (room_u hr) pe_tm pe_tm) hm) (hb H w _ fun v1 F1 H1 g1 r1 => (ho.mono g1.ex).then g1 fun v2 F2 H2 g2 g02 r2 => by
    obtain ⟨a, rfl, _, h⟩ := dget_of ke g02.st r2 (r1.mono g2.ex)
    rcases h with ⟨h, hg⟩ | ⟨x', u, h, hg, ru⟩
    · exact ⟨a, none, rfl, hg, _, rfl, by rw [h] at q; exact q F2 H2 g02⟩
    · exact ⟨a, some u, rfl, hg, _, rfl, by rw [h] at q; exact q F2 H2 g02⟩)
theorem et_tni (ke : KEn kf kd) (hr : Room n X.A) (hb : EvS X a σ F W (kd k) W1) (ho : EvS X o σ F W1 (eT kf g t) W2) (hm : behindInMarks .NotIn o = false := by first | exact nomark _ | rfl) : EvT X (.Compare a [.NotIn] [o] pos) σ F W (!(tGet t k).isSome) W2 := fun H w Q q =>
  tmT_of (pt_cmp (pc_dnotin (room_u hr) pe_tm pe_tm) hm) (hb H w _ fun v1 F1 H1 g1 r1 => (ho.mono g1.ex).then g1 fun v2 F2 H2 g2 g02 r2 => by
    obtain ⟨a, rfl, _, h⟩ := dget_of ke g02.st r2 (r1.mono g2.ex)
    rcases h with ⟨h, hg⟩ | ⟨x', u, h, hg, ru⟩
    · exact ⟨a, none, rfl, hg, _, rfl, by rw [h] at q; exact q F2 H2 g02⟩
    · exact ⟨a, some u, rfl, hg, _, rfl, by rw [h] at q; exact q F2 H2 g02⟩)
/-- d.get(k, x) -/
theorem ev_tget (ke : KEn kf kd) (hr : Room n X.A) (ha : EvS X o σ F W (eT kf g t) W1) (hb : EvS X e σ F W1 (kd k) W2) (hf : EvS X f σ F W2 (g y) W3) (m : M2 X o "get" apos e f pos := by exact ⟨rfl, rfl, rfl, rfl⟩) : EvS X (.Call (.Attribute o "get" apos) [e, f] [] pos) σ F W (g ((tGet t k).getD y)) W3 := fun H w Q q =>
  tm_of (pe_dget2 (room_u hr) pe_tm pe_tm pe_tm m) (ha H w _ fun v1 F1 H1 g1 r1 => by
    obtain ⟨a, vs, rfl, h1, s1, z⟩ := id (Rep.dk_inv r1)
    refine ⟨a, rfl, .inl ⟨vs, g1.st.rdK h1⟩, (hb.mono g1.ex).then g1 fun v2 F2 H2 g2 g02 r2 => (hf.mono g02.ex).then g02 fun v3 F3 H3 g3 g03 r3 => ?_⟩
    obtain ⟨a', e', _, h⟩ := dget_of ke g03.st ((r1.mono g2.ex).mono g3.ex) (r2.mono g3.ex)
    cases e'
    rcases h with ⟨h, hg⟩ | ⟨x', u, h, hg, ru⟩
    · exact ⟨none, hg, q v3 F3 H3 g03 (by rw [h]; exact r3)⟩
    · exact ⟨some u, hg, q u F3 H3 g03 (by rw [h]; exact ru)⟩)
/-! ### an owned dict -/
theorem ev_tgetW {l : Addr} {vs : List (Key × V)} (ke : KEn kf kd) (hr : Room n X.A) (ha : EvS X o σ F W (.ow l) W) (hb : EvS X e σ F W (kd k) W) (hf : EvS X f σ F W (g y) W) (hw : W l = some (.dK vs)) (hk : RepK F vs (eTm kf g t)) (m : M2 X o "get" apos e f pos := by exact ⟨rfl, rfl, rfl, rfl⟩) : EvS X (.Call (.Attribute o "get" apos) [e, f] [] pos) σ F W (g ((tGet t k).getD y)) W := fun H w Q q =>
  tm_of (pe_dget2 (room_u hr) pe_tm pe_tm pe_tm m) (ha H w _ fun v1 F1 H1 g1 r1 => by
    cases r1
    refine ⟨l, rfl, .inl ⟨vs, .inl (g1.st.w l _ hw)⟩, (hb.mono g1.ex).then g1 fun v2 F2 H2 g2 g02 r2 => (hf.mono g02.ex).then g02 fun v3 F3 H3 g3 g03 r3 => ?_⟩
    have hd := g03.st.w l _ hw
    have hky := ke.rep F2 v2 k r2
    rcases (RepK.mono g03.ex hk).get (k := kf k) with ⟨e1, e2⟩ | ⟨v0, d0, e1, e2, qq⟩
    · rw [eTm_get ke.inj, Option.map_eq_none_iff] at e2
      exact ⟨none, .inl ⟨vs, kf k, .inl hd, hky, by rw [valV_t, e1]⟩, q v3 F3 H3 g03 (by rw [e2]; exact r3)⟩
    · rw [eTm_get ke.inj, Option.map_eq_some_iff] at e2
      obtain ⟨x, hx, rfl⟩ := e2
      exact ⟨some v0, .inl ⟨vs, kf k, .inl hd, hky, by rw [valV_t, e1]⟩, q v0 F3 H3 g03 (by rw [hx]; exact qq)⟩)
variable {A : AE} {rest : List Stmt}
theorem bl_tput {l : Addr} {vs : List (Key × V)} (ke : KEn kf kd) (hr : Room n X.A) (he : EvS X e σ F W (g x) W) (ha : EvS X o σ F W (.ow l) W) (hb : EvS X i σ F W (kd k) W) (hw : W l = some (.dK vs)) (hk : RepK F vs (eTm kf g t)) (hz : t.length < 100000)
    (kk : ∀ vs2 F1, Same F F1 → RepK F1 vs2 (eTm kf g (tPut t k x)) → BlkS X rest σ F1 (upd W l (.dK vs2)) A) (hs : swapsWith e (some (.Subscript o i tpos)) pos.line X.env = pure false := by rfl) :
    BlkS X (.Assign [.Subscript o i tpos] e pos :: rest) σ F W A := fun H w E ok =>
  tmB_of (pss_cons (ps_dput (room_u hr) pe_tm pe_tm pe_tm hs) pss_tm) (he H w _ fun v F1 H1 g1 r => (ha.mono g1.ex).then g1 fun v2 F2 H2 g2 g02 r2 => (hb.mono g02.ex).then g02 fun v3 F3 H3 g3 g03 r3 => by
    cases r2
    have hk3 := RepK.mono g03.ex hk
    have hl := hk3.len
    rw [eTm_len] at hl
    refine ⟨l, _, rfl, .inl ⟨vs, kf k, g03.st.w l _ hw, ke.rep _ _ _ r3, by rw [hl]; exact sz_lt (by omega), rfl⟩, ?_⟩
    have rv := r.mono (g2.ex.trans g3.ex)
    refine (kk (putK vs (kf k) v) F3 g03.ex ?_).run ok (g03.trans (Go.put g03.st hw))
    rw [putK_t, ← eTm_put ke.inj]
    exact hk3.put rv)
/-- a new dict, nobody else's -/
def EvM (X : Cx) (e : Expr) (σ : L2.St) (F W : Hp) (ds : List (Key × D)) (W1 : Hp) : Prop :=
  ∀ H, Wd F W H → ∀ Q : VK, (∀ p vs F' H', Go F W H F' (upd W1 p (.dK vs)) H' → RepK F' vs ds → W1 p = none → F' p = none → Q (.ref p) H') → tmE X e σ H Q
theorem em_new : EvM X (.Dict [] [] pos) σ F W [] W := fun H w Q q => tm_of pe_dnewK fun p hp => q p [] _ _ (Go.own w hp) .nil (w.fresh hp).2 (w.fresh hp).1
theorem ev_ofM {ds : List (Key × D)} (h : EvM X e σ F W ds W1) (hz : ds.length ≤ 100000) : EvS X e σ F W (.dk ds) W1 := fun H w Q q =>
  h H w Q fun p vs F' H' g1 r wp fp => by
    have fr := Go.freeze g1.st (p := p) upd_same
    rw [del_upd wp] at fr
    exact q _ _ _ (g1.trans fr) (.dk (.inl upd_same) (RepK.mono fr.ex r) hz)
theorem bl_asgM {j : Nat} {z : Str} {pos' : Pos} {ds : List (Key × D)} (h : EvM X e σ F W ds W1) (kk : ∀ l vs F1, Same F F1 → RepK F1 vs ds → W1 l = none → BlkS X rest (σ.set j (some (.ref l))) F1 (upd W1 l (.dK vs)) A) (hi : X.N[j]? = some z := by rfl) (hx : Loc X.env.scope z := by first | exact Or.inl rfl | exact Or.inr rfl)
    (hs : swapsWith e (some (.Name z pos')) pos.line X.env = pure false := by rfl) (hN : X.N.Nodup := by first | assumption | decide +kernel) (hf : X.fn z = true ∨ X.env.scope.names.lookup z = some .local := by first | exact .inl rfl | exact .inr rfl) :
    BlkS X (.Assign [.Name z pos'] e pos :: rest) σ F W A := fun H w E ok =>
  tmB_of (pss_cons (ps_set hN hi hx pe_tm hs hf) pss_tm) (h H w _ fun l vs F' H' g r wl fl => (kk l vs F' g.ex r wl).run ok g)
theorem bl_freezeM {l : Addr} {vs : List (Key × V)} {ds : List (Key × D)} {sts : List Stmt} (hw : W l = some (.dK vs)) (r : RepK F vs ds) (hz : ds.length ≤ 100000) (kk : ∀ F1, Same F F1 → F1 l = some (.dK vs) → Rep F1 (.ref l) (.dk ds) → BlkS X sts σ F1 (del W l) A) : BlkS X sts σ F W A := fun H w E ok => by
  have g1 := Go.freeze w hw
  exact (kk (upd F l (.dK vs)) g1.ex upd_same (.dk (.inl upd_same) (RepK.mono g1.ex r) hz)).run ok g1
end
end Z
set_option Elab.async false
set_option linter.all false
set_option maxRecDepth 100000
set_option maxHeartbeats 1000000
namespace Z
open PySem PySem.Spec PyProof.Rows L2
/-- a dict comprehension over a walk: Pv by the turn and the heap (the new dict at Dl within) -/
theorem dc_walk {J : It} {n : Nat} {G : Hp → Prop} {Y : Nat → Hp → V → Hp → Prop} (w : Walk J n G Y) {g : TG} {tt : TT} {tk tv : TE} {vs : List Nat} {σ : L2.St} {H1 : Hp} {Dl : Addr} {Qd : Hp → Prop} (Pv : Nat → Hp → Prop)
    (h0 : Pv 0 (upd H1 Dl (.dK []))) (hG : ∀ i H, i ≤ n → Pv i H → G H)
    (hs : ∀ i x H H', i < n → Pv i H → Y i H x H' → g x (wipe σ vs) H' fun σ2 H2 => wipe σ2 vs = wipe σ vs ∧ tt σ2 H2 fun b H3 =>
      if b = true then tk σ2 H3 fun y H4 => tv σ2 H4 fun z H5 => ∃ kvs k, y = kV k ∧ H5 Dl = some (.dK kvs) ∧ kvs.length < sizeLine ∧ Pv (i + 1) (upd H5 Dl (.dK (putK kvs k z)))
      else Pv (i + 1) H3) (hd : ∀ H, Pv n H → Qd H) :
    ∃ W : Nat → Nat → Hp → Prop, (∃ m, W 0 m (upd H1 Dl (.dK []))) ∧ ∀ i m H, W i m H → (J.stop i H ∧ Qd H) ∨
      (J.go i H ∧ ∃ Nx : Hp → Prop, (∀ H', Nx H' → ∃ m', m' < m ∧ W (i + 1) m' H') ∧ ∀ x H', J.yld i H x H' →
        g x (wipe σ vs) H' fun σ2 H2 => wipe σ2 vs = wipe σ vs ∧ tt σ2 H2 fun b H3 =>
          if b = true then tk σ2 H3 fun y H4 => tv σ2 H4 fun z H5 => ∃ kvs k, y = kV k ∧ H5 Dl = some (.dK kvs) ∧ kvs.length < sizeLine ∧ Nx (upd H5 Dl (.dK (putK kvs k z)))
          else Nx H3) := by
  refine ⟨fun i m H => i + m = n ∧ Pv i H, ⟨n, Nat.zero_add n, h0⟩, fun i m H ⟨hm, p⟩ => ?_⟩
  have q := hG i H (by omega) p
  cases m with
  | zero =>
    have e : i = n := by omega
    subst e
    exact .inl ⟨w.stops H q, hd H p⟩
  | succ m => exact .inr ⟨w.goes i H (by omega) q, Pv (i + 1), fun H' p' => ⟨m, Nat.lt_succ_self m, by omega, p'⟩, fun x H' y => hs i x H H' (by omega) p (w.yields i H x H' (by omega) q y)⟩
section
variable {X : Cx} {e elt kx vx tg iter : Expr} {es ifs : List Expr} {σ : L2.St} {F F1 W W1 W2 : Hp} {d d1 d2 : D} {pos p apos cpos : Pos} {n : Nat}
variable {κ α β : Type} [DecidableEq κ] {kf : κ → Key} {kd : κ → D} {g : α → D} {f : β → D}
/-- one turn: the target at v, the tests, key and value -/
def TurnD (X : Cx) (scope : Scope) (vs : List Nat) (tg : Expr) (ifs : List Expr) (kx vx : Expr) (v : V) (σ : L2.St) (F W : Hp) (b : Bool) (d1 d2 : D) : Prop :=
  ∀ s H0 C cl fp, TgT (bX X scope s H0 C cl fp) tg v (wipe σ vs) F W fun σ2 => wipe σ2 vs = wipe σ vs ∧ (∀ s H0 C cl fp, EvTs (bX X scope s H0 C cl fp) ifs σ2 F W b W) ∧
    (b = true → ∀ s H0 C cl fp, EvS (bX X scope s H0 C cl fp) kx σ2 F W d1 W ∧ EvS (bX X scope s H0 C cl fp) vx σ2 F W d2 W)
def tMk (p : β → Bool) (kk : β → κ) (vv : β → α) (xs : List β) : List (κ × α) := (xs.filter p).foldl (fun acc x => tPut acc (kk x) (vv x)) []
theorem tMk_snoc (p : β → Bool) (kk : β → κ) (vv : β → α) (xs : List β) (x : β) : tMk p kk vv (xs ++ [x]) = if p x = true then tPut (tMk p kk vv xs) (kk x) (vv x) else tMk p kk vv xs := by
  unfold tMk
  rw [List.filter_append, List.foldl_append]
  cases h : p x with
  | true => rw [List.filter_cons_of_pos h, if_pos rfl]; rfl
  | false => rw [List.filter_cons_of_neg (by rw [h]; exact Bool.false_ne_true), if_neg Bool.false_ne_true]; rfl
theorem tMk_len (p : β → Bool) (kk : β → κ) (vv : β → α) (xs : List β) : (tMk p kk vv xs).length ≤ xs.length := by
  have key : ∀ (l : List β) (t : List (κ × α)), (l.foldl (fun acc x => tPut acc (kk x) (vv x)) t).length ≤ t.length + l.length := by
    intro l
    induction l with
    | nil => intro t; exact Nat.le_refl _
    | cons x l ih =>
      intro t
      rw [List.foldl_cons]
      have h1 := ih (tPut t (kk x) (vv x))
      have h2 := tPut_len t (kk x) (vv x)
      simp only [List.length_cons]; omega
  have h1 := key (xs.filter p) []
  have h2 := List.length_filter_le p xs
  show ((xs.filter p).foldl _ []).length ≤ _
  simp only [List.length_nil] at h1
  omega
/-- what a dict comprehension makes -/
def DcS (X : Cx) (kx vx tg iter : Expr) (ifs : List Expr) (scope : Scope) (own : List (Str × Nat)) (σ : L2.St) (F W : Hp) (ds : List (Key × D)) (W1 : Hp) : Prop :=
  ∀ H, Wd F W H → ∀ Q : VK, (∀ p vs F' H', Go F W H F' (upd W1 p (.dK vs)) H' → RepK F' vs ds → W1 p = none → F' p = none → Q (.ref p) H') → tDc (tmI X tg iter) (bG X scope tg) (bTs X scope ifs) (bE X scope kx) (bE X scope vx) (own.map (·.2)) σ H Q
theorem dc_comp {own : List (Str × Nat)} {scope : Scope} {xs : List β} (ke : KEn kf kd) (pb : β → Bool) (kk : β → κ) (vv : β → α) (hi : EvI X tg iter σ F W (xs.map f) W1) (hz : xs.length ≤ 100000)
    (body : ∀ x ∈ xs, ∀ v F1, Same F F1 → Rep F1 v (f x) → TurnD X scope (own.map (·.2)) tg ifs kx vx v σ F1 W1 (pb x) (kd (kk x)) (g (vv x))) :
    DcS X kx vx tg iter ifs scope own σ F W (eTm kf g (tMk pb kk vv xs)) W1 := fun H w Q q =>
    (hi H w _ fun J G Y F1 H1 g1 wk hG hY => fun Dl hD => by
      have hDl := g1.st.fresh hD
      rw [List.length_map] at wk
      refine dc_walk wk (fun i H' => ∃ Fi kvs, Go F1 (upd W1 Dl (.dK [])) (upd H1 Dl (.dK [])) Fi (upd W1 Dl (.dK kvs)) H' ∧ RepK Fi kvs (eTm kf g (tMk pb kk vv (xs.take i)))) ?_ ?_ ?_ ?_
      · exact ⟨F1, [], Go.refl (Go.own g1.st hD).st, .nil⟩
      · rintro i H' _ ⟨Fi, kvs, gi, _⟩
        exact hG Fi _ H' gi.ex gi.st
      · rintro i x H' H'' hi' ⟨Fi, kvs, gi, rk⟩ hy
        have ex : (xs.map f)[i]? = some (f xs[i]) := by rw [List.getElem?_map, List.getElem?_eq_getElem hi']; rfl
        obtain ⟨F3, g3, r3⟩ := hY i Fi _ H' H'' x (f xs[i]) gi.ex gi.st hy ex
        have w3 := g3.st.less hDl.2
        have tn := body xs[i] (List.getElem_mem hi') x F3 ((g1.ex.trans gi.ex).trans g3.ex) r3
        have et : xs.take (i + 1) = xs.take i ++ [xs[i]] := by rw [List.take_add_one, List.getElem?_eq_getElem hi']; rfl
        intro s0 H0' C cl fp
        refine tn s0 H0' C cl fp H'' w3 _ fun σ2 ⟨hσ, ht, he⟩ => ⟨hσ, fun s1 H1' C1 cl1 fp1 => ht s1 H1' C1 cl1 fp1 H'' w3 _ fun F4 H4 g4 => ?_⟩
        obtain ⟨_, g4'⟩ := g4.more g3.st hDl.2
        cases hp : pb xs[i] with
        | false =>
          rw [if_neg Bool.false_ne_true, et, tMk_snoc, hp]
          exact ⟨F4, kvs, gi.trans (g3.trans g4'), RepK.mono (g3.ex.trans g4.ex) rk⟩
        | true =>
          rw [if_pos rfl]
          intro s5 H5' C5 cl5 fp5
          refine ((he hp s5 H5' C5 cl5 fp5).1).mono g4.ex H4 g4.st _ fun y F5 H5 g5 r5 => ?_
          intro s6 H6' C6 cl6 fp6
          refine ((he hp s6 H6' C6 cl6 fp6).2).mono (g4.ex.trans g5.ex) H5 g5.st _ fun z F6 H6 g6 r6 => ?_
          obtain ⟨_, g5'⟩ := g5.more g4'.st hDl.2
          obtain ⟨_, g6'⟩ := g6.more g5'.st hDl.2
          have hcell : H6 Dl = some (.dK kvs) := g6'.st.w Dl _ upd_same
          have rk' := RepK.mono (g3.ex.trans (g4.ex.trans (g5.ex.trans g6.ex))) rk
          have hlen : kvs.length ≤ i := by
            rw [rk'.len, eTm_len]
            have := tMk_len pb kk vv (xs.take i)
            rw [List.length_take] at this; omega
          refine ⟨kvs, kf (kk xs[i]), ke.rep _ _ _ r5, hcell, Nat.lt_of_le_of_lt hlen (Nat.lt_of_lt_of_le (by omega) (sz_ok (Nat.le_refl 100000))), F6, putK kvs (kf (kk xs[i])) z, ?_, ?_⟩
          · have gp := Go.put (o := .dK (putK kvs (kf (kk xs[i])) z)) g6'.st (p := Dl) upd_same
            rw [upd_upd] at gp
            exact gi.trans (g3.trans (g4'.trans (g5'.trans (g6'.trans gp))))
          · rw [et, tMk_snoc, hp, if_pos rfl, putK_t, ← eTm_put ke.inj]
            exact rk'.put r6
      · rintro H' ⟨Fi, kvs, gi, rk⟩
        rw [List.take_length] at rk
        exact q Dl kvs Fi H' ((g1.trans (Go.own g1.st hD)).trans gi) rk hDl.2 (by
          rcases opt_cases (Fi Dl) with z | ⟨z, hz⟩
          · exact z
          · have := gi.st.d Dl z hz; rw [upd_same] at this; cases this))
theorem em_of {own : List (Str × Nat)} {scope : Scope} {ds : List (Key × D)} (h : DcS X kx vx tg iter ifs scope own σ F W ds W1) (ok : BlkOk X.N X.env.scope scope own := by exact blkOk_by (by decide +kernel)) (hc : X.calm = true := by rfl) (hN : X.N.Nodup := by first | assumption | decide +kernel) (hs : ∀ x, foldedSetIterable iter X.env x = pure x := by intro _; rfl) :
    EvM X (.DictComp kx vx [⟨tg, iter, ifs, 0⟩] scope pos) σ F W ds W1 := fun H w Q q =>
  tm_of (pe_dc (g := bG X scope tg) (tt := bTs X scope ifs) (tk := bE X scope kx) (tv := bE X scope vx) hc hN pi_tm ok (fun s H0 C cl fp => ⟨fun pins s1 σ1 H1 v u Q1 I r h => h s H0 C cl fp pins s1 u I r⟩)
    (fun s H0 C cl fp => ⟨fun pins s1 σ1 H1 Q1 I h => h s H0 C cl fp pins s1 I⟩) (fun s H0 C cl fp => ⟨fun pins s1 σ1 H1 Q1 I h => h s H0 C cl fp pins s1 I⟩) (fun s H0 C cl fp => ⟨fun pins s1 σ1 H1 Q1 I h => h s H0 C cl fp pins s1 I⟩) hs) (h H w Q q)
theorem em_comp {own : List (Str × Nat)} {scope : Scope} {xs : List β} (ke : KEn kf kd) (pb : β → Bool) (kk : β → κ) (vv : β → α) (hi : EvI X tg iter σ F W (xs.map f) W1) (hz : xs.length ≤ 100000)
    (body : ∀ x ∈ xs, ∀ v F1, Same F F1 → Rep F1 v (f x) → TurnD X scope (own.map (·.2)) tg ifs kx vx v σ F1 W1 (pb x) (kd (kk x)) (g (vv x)))
    (ok : BlkOk X.N X.env.scope scope own := by exact blkOk_by (by decide +kernel)) (hc : X.calm = true := by rfl) (hN : X.N.Nodup := by first | assumption | decide +kernel) (hs : ∀ x, foldedSetIterable iter X.env x = pure x := by intro _; rfl) :
    EvM X (.DictComp kx vx [⟨tg, iter, ifs, 0⟩] scope pos) σ F W (eTm kf g (tMk pb kk vv xs)) W1 := em_of (dc_comp (own := own) (f := f) (g := g) ke pb kk vv hi hz body) ok hc hN hs
theorem ev_comp {own : List (Str × Nat)} {scope : Scope} {xs : List β} (ke : KEn kf kd) (pb : β → Bool) (kk : β → κ) (vv : β → α) (hi : EvI X tg iter σ F W (xs.map f) W1) (hz : xs.length ≤ 100000)
    (body : ∀ x ∈ xs, ∀ v F1, Same F F1 → Rep F1 v (f x) → TurnD X scope (own.map (·.2)) tg ifs kx vx v σ F1 W1 (pb x) (kd (kk x)) (g (vv x)))
    (ok : BlkOk X.N X.env.scope scope own := by exact blkOk_by (by decide +kernel)) (hc : X.calm = true := by rfl) (hN : X.N.Nodup := by first | assumption | decide +kernel) (hs : ∀ x, foldedSetIterable iter X.env x = pure x := by intro _; rfl) :
    EvS X (.DictComp kx vx [⟨tg, iter, ifs, 0⟩] scope pos) σ F W (eT kf g (tMk pb kk vv xs)) W1 :=
  ev_ofM (em_comp (own := own) (f := f) (g := g) ke pb kk vv hi hz body ok hc hN hs) (by rw [eTm_len]; have := tMk_len pb kk vv xs; omega)
end
/-! ## dict(rows of pairs) -/
section
variable {X : Cx} {F W W1 : Hp} {κ α : Type} [DecidableEq κ] {kf : κ → Key} {kd : κ → D} {g : α → D}
theorem mergeK_t : ∀ (m t : List (Key × V)), mergeK t m = m.foldl (fun acc p => tPut acc p.1 p.2) t
  | [], t => rfl
  | p :: m, t => by
    show mergeK (putK t p.1 p.2) m = _
    rw [mergeK_t m, putK_t]; rfl
theorem repK_of {F : Hp} : ∀ {ms : List (Key × V)} {vs : List (Key × V)} {ds : List (Key × D)} {es : List (Key × D)}, RepK F ms es → RepK F vs ds → RepK F (ms.foldl (fun acc p => tPut acc p.1 p.2) vs) (es.foldl (fun acc p => tPut acc p.1 p.2) ds)
  | _, _, _, _, .nil, h => h
  | _, _, _, _, .cons (k := k) r t, h => by
    rw [List.foldl_cons, List.foldl_cons]
    exact repK_of t (h.put (k := k) r)
theorem eTm_of (ke : KEn kf kd) : ∀ (ps : List (κ × α)) (t : List (κ × α)), (eTm kf g ps).foldl (fun acc p => tPut acc p.1 p.2) (eTm kf g t) = eTm kf g (ps.foldl (fun acc p => tPut acc p.1 p.2) t)
  | [], t => rfl
  | p :: ps, t => by
    show (eTm kf g ps).foldl _ (tPut (eTm kf g t) (kf p.1) (g p.2)) = _
    rw [eTm_put ke.inj, eTm_of ke ps]; rfl
theorem tOf_len {ps : List (κ × α)} : (tOf ps).length ≤ ps.length := by
  have key : ∀ (l t : List (κ × α)), (l.foldl (fun acc p => tPut acc p.1 p.2) t).length ≤ t.length + l.length := by
    intro l
    induction l with
    | nil => intro t; exact Nat.le_refl _
    | cons x l ih =>
      intro t
      rw [List.foldl_cons]
      have h1 := ih (tPut t x.1 x.2)
      have h2 := tPut_len t x.1 x.2
      simp only [List.length_cons]; omega
  have := key ps []
  simp only [List.length_nil] at this
  show (ps.foldl _ []).length ≤ _
  omega
theorem pairs_rep (ke : KEn kf kd) {H : Hp} (w : Wd F W H) : ∀ {vs : List V} {ps : List (κ × α)}, Reps F vs (ps.map (eP kd g)) → ∃ (as : List Addr) (kvs : List (Key × V)), vs = as.map V.ref ∧ Paired (fun p kv => SqT X.K H p [kV kv.1, kv.2]) as kvs ∧ RepK F kvs (eTm kf g ps)
  | _, [], .nil => ⟨[], [], rfl, .nil, .nil⟩
  | _, p :: ps, .cons r t => by
    obtain ⟨as, kvs, rfl, hp, hk⟩ := pairs_rep ke w t
    obtain ⟨a, us, rfl, h1, s1, z1⟩ := Rep.tup_inv r
    cases s1 with
    | @cons u1 _ _ _ r1 s1 =>
    cases s1 with
    | @cons u2 _ _ _ r2 s1 =>
    cases s1
    have e1 := ke.rep F u1 p.1 r1
    subst e1
    exact ⟨a :: as, (kf p.1, u2) :: kvs, rfl, .cons (SqT.of (w.tup h1)) hp, .cons r2 hk⟩
theorem cl_dict (ke : KEn kf kd) {ps : List (κ × α)} (hc : X.calm = true := by rfl) : CalR X (.type "dict") F W [eR false (eP kd g) ps] (eT kf g (tOf ps)) := ⟨_, call_dictP hc, fun vs F1 H1 _ r w Q q => by
  cases r with
  | cons r t =>
  cases t
  obtain ⟨l, us, rfl, h1, s1, z1⟩ := r.lst_inv
  obtain ⟨as, kvs, rfl, hp, hk⟩ := pairs_rep (X := X) ke w s1
  refine ⟨l, as, kvs, rfl, SqL.of (w.lst h1), hp, fun p hp => q _ _ _ (Go.new w hp) (.dk (.inl upd_same) ?_ ?_)⟩
  · rw [mergeK_t]
    have := repK_of (F := F1) hk .nil
    rw [show ([] : List (Key × D)) = eTm kf g [] from rfl, eTm_of ke] at this
    exact RepK.mono (Go.new w hp).ex this
  · rw [eTm_len]
    have := tOf_len (ps := ps)
    rw [List.length_map] at z1; omega⟩
end
/-! ## a dict while it is walked -/
/-- the dict at l, locked or not -/
def Lk (F F' : Hp) : Prop := ∀ a o, F a = some o → F' a = some o ∨ ∃ vs, Rd F a (.dK vs) ∧ Rd F' a (.dK vs)
theorem Lk.dk {F F' : Hp} (e : Lk F F') {a : Addr} {vs : List (Key × V)} (h : Rd F a (.dK vs)) : Rd F' a (.dK vs) := by
  have same : ∀ vs', Rd F a (.dK vs') → vs' = vs := fun vs' q => by
    rcases h with h | ⟨o1, h⟩ <;> rcases q with q | ⟨o2, q⟩ <;> (rw [h] at q; cases q) <;> rfl
  rcases h with h | ⟨o1, h⟩
  · rcases e a _ h with q | ⟨vs', q1, q2⟩
    · exact .inl q
    · rw [same vs' q1] at q2; exact q2
  · rcases e a _ h with q | ⟨vs', q1, q2⟩
    · exact .inr ⟨o1, q⟩
    · rw [same vs' q1] at q2; exact q2
theorem Lk.other {F F' : Hp} (e : Lk F F') {a : Addr} {o : HO} (h : F a = some o) (hn : ∀ vs, ¬ Rd F a (.dK vs)) : F' a = some o := by
  rcases e a o h with q | ⟨vs, q, _⟩
  · exact q
  · exact absurd q (hn vs)
theorem not_rd {F : Hp} {a : Addr} {o : HO} (h : F a = some o) (h1 : ∀ vs, o ≠ .dK vs) (h2 : ∀ q vs, o ≠ .frz q (.dK vs)) : ∀ vs, ¬ Rd F a (.dK vs) := fun vs q => by
  rcases q with q | ⟨o1, q⟩
  · rw [h] at q; cases q; exact h1 _ rfl
  · rw [h] at q; cases q; exact h2 _ _ rfl
mutual
theorem Rep.lk {F F' : Hp} (e : Lk F F') : ∀ {v : V} {d : D}, Rep F v d → Rep F' v d
  | _, _, .non => .non
  | _, _, .bl b => .bl b
  | _, _, .int i => .int i
  | _, _, .str s => .str s
  | _, _, .sq (t := t) h r z => .sq (e.other h (not_rd h (by cases t <;> exact fun _ q => nomatch q) (by cases t <;> exact fun _ _ q => nomatch q))) (Reps.lk e r) z
  | _, _, .dk h r z => .dk (e.dk h) (RepK.lk e r) z
  | _, _, .ow a => .ow a
  | _, _, .fz h r z => .fz (h.imp (fun ⟨o, q⟩ => ⟨o, e.other q (not_rd q (fun _ q => nomatch q) (fun _ _ q => nomatch q))⟩) id) (Reps.lk e r) z
  | _, _, .ob h r => .ob (e.other h (not_rd h (fun _ q => nomatch q) (fun _ _ q => nomatch q))) (RepF.lk e r)
theorem Reps.lk {F F' : Hp} (e : Lk F F') : ∀ {v : List V} {d : List D}, Reps F v d → Reps F' v d
  | _, _, .nil => .nil
  | _, _, .cons h r => .cons (Rep.lk e h) (Reps.lk e r)
theorem RepK.lk {F F' : Hp} (e : Lk F F') : ∀ {v : List (Key × V)} {d : List (Key × D)}, RepK F v d → RepK F' v d
  | _, _, .nil => .nil
  | _, _, .cons h r => .cons (Rep.lk e h) (RepK.lk e r)
theorem RepF.lk {F F' : Hp} (e : Lk F F') : ∀ {v : List (Str × V)} {d : List (Str × D)}, RepF F v d → RepF F' v d
  | _, _, .nil => .nil
  | _, _, .cons h r => .cons (Rep.lk e h) (RepF.lk e r)
end
theorem lk_lock {F : Hp} {l : Addr} {od : Obj} {vs : List (Key × V)} (h : F l = some (.dK vs)) : Lk F (upd F l (.frz od (.dK vs))) := fun a o q => by
  by_cases e : a = l
  · subst e; exact .inr ⟨vs, .inl h, .inr ⟨od, upd_same⟩⟩
  · exact .inl (by rw [upd_ne e]; exact q)
theorem lk_free {F : Hp} {l : Addr} {od : Obj} {vs : List (Key × V)} (h : F l = some (.frz od (.dK vs))) : Lk F (upd F l (.dK vs)) := fun a o q => by
  by_cases e : a = l
  · subst e; exact .inr ⟨vs, .inr ⟨od, h⟩, .inl upd_same⟩
  · exact .inl (by rw [upd_ne e]; exact q)
section
variable {X : Cx} {e tg iter : Expr} {σ : L2.St} {F W W1 : Hp} {d : D} {apos cpos pos : Pos}
theorem Go.unlock {l : Addr} {vs : List (Key × V)} {od : Obj} {H F2 W2 H2 : Hp} (w : Wd F W H) (hF : F l = some (.dK vs)) (hH : H l = some (.dK vs)) (g2 : Go (upd F l (.frz od (.dK vs))) W (upd H l (.frz od (.dK vs))) F2 W2 H2) : Go F W H (upd F2 l (.dK vs)) W2 (upd H2 l (.dK vs)) := by
  have f2 : F2 l = some (.frz od (.dK vs)) := g2.ex l _ upd_same
  refine ⟨⟨fun a o z => ?_, fun a o z => ?_, fun a o z => ?_⟩, fun a o z => ?_, fun a o z n => ?_, fun a o z z2 => ?_, fun a o z => ?_⟩
  · by_cases ea : a = l
    · subst ea; rw [upd_same] at z ⊢; exact .inl z
    · rw [upd_ne ea] at z ⊢; exact g2.st.f a o z
  · have ea : a ≠ l := fun ea => by subst ea; rw [g2.st.d a _ f2] at z; cases z
    rw [upd_ne ea]; exact g2.st.w a o z
  · by_cases ea : a = l
    · subst ea; exact g2.st.d a _ f2
    · rw [upd_ne ea] at z; exact g2.st.d a o z
  · by_cases ea : a = l
    · subst ea; rw [hF] at z; rw [upd_same]; exact z
    · rw [upd_ne ea]; exact g2.ex a o (by rw [upd_ne ea]; exact z)
  · by_cases ea : a = l
    · subst ea; rw [hH] at z; rw [upd_same]; exact z
    · rw [upd_ne ea]; exact g2.keep a o (by rw [upd_ne ea]; exact z) n
  · have ea : a ≠ l := fun ea => by subst ea; rw [hF] at z; cases z
    rw [upd_ne ea] at z2
    rcases g2.nF a o (by rw [upd_ne ea]; exact z) z2 with y | y
    · rw [upd_ne ea] at y; exact .inl y
    · exact .inr y
  · rcases g2.nW a o z with y | y
    · exact .inl y
    · have ea : a ≠ l := fun ea => by subst ea; rw [upd_same] at y; cases y
      rw [upd_ne ea] at y; exact .inr y
theorem Go.unlock2 {l : Addr} {vs : List (Key × V)} {od : Obj} {H F2 W2 H2 : Hp} (w : Wd F W H) (hF : F l = some (.dK vs)) (g2 : Go (upd F l (.frz od (.dK vs))) W H F2 W2 H2) : Go F W H (upd F2 l (.dK vs)) W2 H2 := by
  have f2 : F2 l = some (.frz od (.dK vs)) := g2.ex l _ upd_same
  refine ⟨⟨fun a o z => ?_, g2.st.w, fun a o z => ?_⟩, fun a o z => ?_, g2.keep, fun a o z z2 => ?_, g2.nW⟩
  · by_cases ea : a = l
    · subst ea; rw [upd_same] at z; cases z
      rcases g2.st.f a _ f2 with y | ⟨y, _⟩
      · exact .inr ⟨rfl, od, y⟩
      · cases y
    · rw [upd_ne ea] at z; exact g2.st.f a o z
  · by_cases ea : a = l
    · subst ea; exact g2.st.d a _ f2
    · rw [upd_ne ea] at z; exact g2.st.d a o z
  · by_cases ea : a = l
    · subst ea; rw [hF] at z; rw [upd_same]; exact z
    · rw [upd_ne ea]; exact g2.ex a o (by rw [upd_ne ea]; exact z)
  · have ea : a ≠ l := fun ea => by subst ea; rw [hF] at z; cases z
    rw [upd_ne ea] at z2
    exact g2.nF a o (by rw [upd_ne ea]; exact z) z2
theorem Wd.lock {l : Addr} {vs : List (Key × V)} {od : Obj} {H : Hp} (w : Wd F W H) (hF : F l = some (.dK vs)) : Wd (upd F l (.frz od (.dK vs))) W (upd H l (.frz od (.dK vs))) := by
  refine ⟨fun a o z => ?_, fun a o z => ?_, fun a o z => ?_⟩
  · by_cases ea : a = l
    · subst ea; rw [upd_same] at z ⊢; exact .inl z
    · rw [upd_ne ea] at z ⊢; exact w.f a o z
  · have ea : a ≠ l := fun ea => by subst ea; rw [w.d a _ hF] at z; cases z
    rw [upd_ne ea]; exact w.w a o z
  · by_cases ea : a = l
    · subst ea; exact w.d a _ hF
    · rw [upd_ne ea] at z; exact w.d a o z
theorem Wd.lock2 {l : Addr} {vs : List (Key × V)} {od : Obj} {H : Hp} (w : Wd F W H) (hF : F l = some (.dK vs)) (hH : H l = some (.frz od (.dK vs))) : Wd (upd F l (.frz od (.dK vs))) W H := by
  refine ⟨fun a o z => ?_, w.w, fun a o z => ?_⟩
  · by_cases ea : a = l
    · subst ea; rw [upd_same] at z; cases z; exact .inl hH
    · rw [upd_ne ea] at z; exact w.f a o z
  · by_cases ea : a = l
    · subst ea; exact w.d a _ hF
    · rw [upd_ne ea] at z; exact w.d a o z
theorem Go.lk {l : Addr} {vs : List (Key × V)} {od : Obj} {H F2 W2 H2 : Hp} (g2 : Go (upd F l (.frz od (.dK vs))) W H F2 W2 H2) : F2 l = some (.frz od (.dK vs)) ∧ H2 l = some (.frz od (.dK vs)) := by
  have f2 : F2 l = some (.frz od (.dK vs)) := g2.ex l _ upd_same
  refine ⟨f2, ?_⟩
  rcases g2.st.f l _ f2 with z | ⟨z, _⟩
  · exact z
  · cases z
theorem ev_lock {l : Addr} {vs : List (Key × V)} (hF : F l = some (.dK vs)) (h : ∀ od, EvS X e σ (upd F l (.frz od (.dK vs))) W d W1) : EvS X e σ F W d W1 := fun H w Q q => by
  rcases w.f l _ hF with hH | ⟨_, od, hH⟩
  · exact tm_of (pe_lock pe_tm) ⟨l, .dK vs, hH, trivial, fun od => h od _ (w.lock hF) _ fun v F2 H2 g2 r2 => ⟨g2.lk.2, q v _ _ (Go.unlock w hF hH g2) (Rep.lk (lk_free g2.lk.1) r2)⟩⟩
  · exact h od H (w.lock2 hF hH) Q fun v F2 H2 g2 r2 => q v _ H2 (Go.unlock2 w hF g2) (Rep.lk (lk_free g2.lk.1) r2)
theorem em_lock {l : Addr} {vs : List (Key × V)} {ds : List (Key × D)} (hF : F l = some (.dK vs)) (h : ∀ od, EvM X e σ (upd F l (.frz od (.dK vs))) W ds W1) : EvM X e σ F W ds W1 := fun H w Q q => by
  rcases w.f l _ hF with hH | ⟨_, od, hH⟩
  · exact tm_of (pe_lock pe_tm) ⟨l, .dK vs, hH, trivial, fun od => h od _ (w.lock hF) _ fun p vs2 F2 H2 g2 r2 wp fp => ⟨g2.lk.2, q p vs2 _ _ (Go.unlock w hF hH g2) (RepK.lk (lk_free g2.lk.1) r2) wp (by
      have ea : p ≠ l := fun ea => by subst ea; rw [g2.lk.1] at fp; cases fp
      rw [upd_ne ea]; exact fp)⟩⟩
  · exact h od H (w.lock2 hF hH) Q fun p vs2 F2 H2 g2 r2 wp fp => q p vs2 _ H2 (Go.unlock2 w hF g2) (RepK.lk (lk_free g2.lk.1) r2) wp (by
      have ea : p ≠ l := fun ea => by subst ea; rw [g2.lk.1] at fp; cases fp
      rw [upd_ne ea]; exact fp)
variable {kx vx : Expr} {ifs : List Expr} {A : AE} {rest : List Stmt}
theorem sw_dict {gs : List Comprehension} {scope : Scope} {p py : Pos} {y : Str} {l : Nat} {env : Env} (hk : env.scope.kind = .function) (hy : env.scope.names.lookup y = some .local) (hl : (py.line == p.line) = true)
    (ha : (scope.names.any fun (n, k) => n == y && (k == .local || k == .cell)) = false) : swapsWith (.DictComp kx vx gs scope p) (some (.Name y py)) l env = pure true := by
  have e1 : env.kindOf y = some .local := hy
  have e2 : env.blockKind = .function := by unfold Env.blockKind; rw [hk]; rfl
  simp only [swapsWith, e2, e1, ha, Expr.pos, hl]
  rfl
/-- name = {..} on one line: the name is stored within the comprehension -/
theorem ps_setDc {i : Nat} {y : Str} {py p spos : Pos} {scope : Scope} {own : List (Str × Nat)} {wi : TI} {g : TG} {tt : TT} {tk tv : TE} (hc : X.calm = true) (hN : X.N.Nodup) (hy : X.N[i]? = some y) (hyl : X.env.scope.names.lookup y = some .local)
    (hsw : swapsWith (.DictComp kx vx [⟨tg, iter, ifs, 0⟩] scope p) (some (.Name y py)) spos.line X.env = pure true) (hi : PI X tg iter wi) (ok : BlkOk X.N X.env.scope scope own)
    (hg : ∀ s H C cl fp, PG (X.blk s H scope (compEnvC scope cl C X.env) fp) tg g) (ht : ∀ s H C cl fp, PTs (X.blk s H scope (compEnvC scope cl C X.env) fp) ifs tt)
    (hk : ∀ s H C cl fp, PE (X.blk s H scope (compEnvC scope cl C X.env) fp) kx tk) (he : ∀ s H C cl fp, PE (X.blk s H scope (compEnvC scope cl C X.env) fp) vx tv) (hs : ∀ x, foldedSetIterable iter X.env x = pure x) :
    PS X (.Assign [.Name y py] (.DictComp kx vx [⟨tg, iter, ifs, 0⟩] scope p) spos) (tAsg (tDc wi g tt tk tv (own.map (·.2))) (gName i)) := by
  refine ⟨fun pins s σ H D I h0 => ?_⟩
  have h1 : tDc wi g tt tk tv (own.map (·.2)) σ H (fun x H1 => gName i x σ H1 D.nx) := h0
  rw [exec_Assign_Name_used _ _ _ _ hsw]
  refine wpAny_bind (wpAny_standAt (wpAny_bind ?_))
  show wpAny _ X.A (do let _ ← comprehension (.DictComp kx vx [⟨tg, iter, ifs, 0⟩] scope p) scope X.env (firstIterPos [⟨tg, iter, ifs, 0⟩] p) newDict false (eval iter X.env) (some (assign (.Name y py) X.env))) _ _ s
  refine wpAny_bind (thn (dc_core (Qf := fun _ t => SP X pins D .next t) hc hN I hi ok hg ht hk he hs h1 fun L C s1 m H1 I1 q1 ns1 f1 => ?_) fun _ t hq => wpAny_pure (wpAny_pure hq))
  show wpAny _ _ (assign (.Name y py) X.env (.ref L)) _ _ _
  refine wpAny_assign_Name (store_ok2 (v := V.ref L) I1 hN hy (.inl hyl) rfl (fun s2 I2 ⟨a, sb, ha⟩ => ?_) (.inr hyl))
  have hne : C ≠ a := ha.elim (fun z => z ▸ f1.2.1) fun z e => f1.2.2.2.2.1 y a z e.symm
  exact ⟨m, ns1.sameBut sb hne, fun h3 sb3 => ⟨_, H1, I2.turned (t' := s2.toks) (fun b o hb e => (sb3.2 b hb).trans e) f1.1 f1.2.1 f1.2.2.2.1 f1.2.2.2.2.1 f1.2.2.2.2.2, q1⟩⟩
section
variable {i : Nat} {y : Str} {py p spos : Pos} {scope : Scope} {own : List (Str × Nat)} {ds : List (Key × D)}
theorem ps_setDcZ (hy : X.N[i]? = some y) (hyl : X.env.scope.names.lookup y = some .local) (hsw : swapsWith (.DictComp kx vx [⟨tg, iter, ifs, 0⟩] scope p) (some (.Name y py)) spos.line X.env = pure true) (ok : BlkOk X.N X.env.scope scope own) (hc : X.calm = true) (hN : X.N.Nodup) (hs : ∀ x, foldedSetIterable iter X.env x = pure x) :
    PS X (.Assign [.Name y py] (.DictComp kx vx [⟨tg, iter, ifs, 0⟩] scope p) spos) (tAsg (tDc (tmI X tg iter) (bG X scope tg) (bTs X scope ifs) (bE X scope kx) (bE X scope vx) (own.map (·.2))) (gName i)) :=
  ps_setDc hc hN hy hyl hsw pi_tm ok (fun s H0 C cl fp => ⟨fun pins s1 σ1 H1 v u Q1 I r h => h s H0 C cl fp pins s1 u I r⟩)
    (fun s H0 C cl fp => ⟨fun pins s1 σ1 H1 Q1 I h => h s H0 C cl fp pins s1 I⟩) (fun s H0 C cl fp => ⟨fun pins s1 σ1 H1 Q1 I h => h s H0 C cl fp pins s1 I⟩) (fun s H0 C cl fp => ⟨fun pins s1 σ1 H1 Q1 I h => h s H0 C cl fp pins s1 I⟩) hs
theorem bl_setDc (h : DcS X kx vx tg iter ifs scope own σ F W ds W1) (k : ∀ l vs F1, Same F F1 → RepK F1 vs ds → W1 l = none → BlkS X rest (σ.set i (some (.ref l))) F1 (upd W1 l (.dK vs)) A) (hy : X.N[i]? = some y := by rfl)
    (hyl : X.env.scope.names.lookup y = some .local := by rfl) (hsw : swapsWith (.DictComp kx vx [⟨tg, iter, ifs, 0⟩] scope p) (some (.Name y py)) spos.line X.env = pure true := by exact sw_dict rfl rfl rfl (by decide +kernel)) (ok : BlkOk X.N X.env.scope scope own := by exact blkOk_by (by decide +kernel)) (hc : X.calm = true := by rfl) (hN : X.N.Nodup := by first | assumption | decide +kernel) (hs : ∀ x, foldedSetIterable iter X.env x = pure x := by intro _; rfl) :
    BlkS X (.Assign [.Name y py] (.DictComp kx vx [⟨tg, iter, ifs, 0⟩] scope p) spos :: rest) σ F W A := fun H w E ok2 =>
  tmB_of (pss_cons (ps_setDcZ hy hyl hsw ok hc hN hs) pss_tm) (h H w (fun x H1 => tmB X rest E (σ.set i (some x)) H1) fun l vs F' H' g r wl fl => (k l vs F' g.ex r wl).run ok2 g)
/-- .. of the dict at l, that is walked -/
theorem bl_setDcL {l : Addr} {vs : List (Key × V)} (hF : F l = some (.dK vs)) (h : ∀ od, DcS X kx vx tg iter ifs scope own σ (upd F l (.frz od (.dK vs))) W ds W1) (k : ∀ l vs F1, Same F F1 → RepK F1 vs ds → W1 l = none → BlkS X rest (σ.set i (some (.ref l))) F1 (upd W1 l (.dK vs)) A) (hy : X.N[i]? = some y := by rfl)
    (hyl : X.env.scope.names.lookup y = some .local := by rfl) (hsw : swapsWith (.DictComp kx vx [⟨tg, iter, ifs, 0⟩] scope p) (some (.Name y py)) spos.line X.env = pure true := by exact sw_dict rfl rfl rfl (by decide +kernel)) (ok : BlkOk X.N X.env.scope scope own := by exact blkOk_by (by decide +kernel)) (hc : X.calm = true := by rfl) (hN : X.N.Nodup := by first | assumption | decide +kernel) (hs : ∀ x, foldedSetIterable iter X.env x = pure x := by intro _; rfl) :
    BlkS X (.Assign [.Name y py] (.DictComp kx vx [⟨tg, iter, ifs, 0⟩] scope p) spos :: rest) σ F W A := fun H w E ok2 => by
  rcases w.f l _ hF with hH | ⟨_, od, hH⟩
  · refine tmB_of (pss_cons (ps_lock (ps_setDcZ hy hyl hsw ok hc hN hs)) pss_tm) ⟨l, .dK vs, hH, trivial, fun od => h od _ (w.lock hF) _ fun p vs2 F2 H2 g2 r2 wp fp => ⟨g2.lk.2, ?_⟩⟩
    exact (k p vs2 _ (Go.unlock w hF hH g2).ex (RepK.lk (lk_free g2.lk.1) r2) wp).run ok2 (Go.unlock w hF hH g2)
  · refine tmB_of (pss_cons (ps_setDcZ hy hyl hsw ok hc hN hs) pss_tm) (h od H (w.lock2 hF hH) (fun x H1 => tmB X rest E (σ.set i (some x)) H1) fun p vs2 F2 H2 g2 r2 wp fp => ?_)
    exact (k p vs2 _ (Go.unlock2 w hF g2).ex (RepK.lk (lk_free g2.lk.1) r2) wp).run ok2 (Go.unlock2 w hF g2)
end
end
end Z
set_option Elab.async false
set_option linter.all false
set_option maxRecDepth 100000
set_option maxHeartbeats 1000000
namespace Z
open PySem PySem.Spec PyProof.Rows L2
section
variable {X : Cx} {e a b o tg iter : Expr} {σ : L2.St} {F W W1 W2 : Hp} {d d1 : D} {apos cpos pos p tpos : Pos} {i : Int} {n : Nat}
variable {κ α : Type} [DecidableEq κ] {kf : κ → Key} {kd : κ → D} {g : α → D} {t : List (κ × α)}
theorem repK_at (ke : KEn kf kd) : ∀ {vs : List (Key × V)} {t : List (κ × α)}, RepK F vs (eTm kf g t) → ∀ (j : Nat) (q : κ × α), t[j]? = some q → ∃ u, vs[j]? = some (kf q.1, u) ∧ Rep F u (g q.2)
  | _, [], .nil, j, q, h => by simp at h
  | _, p :: r, .cons (v := v) h1 h2, 0, q, h => by simp at h; subst h; exact ⟨v, rfl, h1⟩
  | _, p :: r, .cons h1 h2, j + 1, q, h => by
    obtain ⟨u, a1, a2⟩ := repK_at (t := r) ke h2 j q (by simpa using h)
    exact ⟨u, by simpa using a1, a2⟩
/-- for k, v in d.items(), d locked -/
theorem ei_items {l : Addr} {od : Obj} {vs : List (Key × V)} {elts : List Expr} {kk : Nat} (ke : KEn kf kd) (he : EvS X e σ F W (.ow l) W) (hF : F l = some (.frz od (.dK vs))) (hk : RepK F vs (eTm kf g t))
    (hbase : attributeBase e "items" X.env (eval e X.env) = eval e X.env := by rfl) (hline : (apos.endLine == cpos.line) = true := by rfl) :
    EvI X (.Tuple elts kk tpos) (.Call (.Attribute e "items" apos) [] [] cpos) σ F W (t.map (eP kd g)) W := fun H w R q =>
  tmI_of (pi_items pe_tm hbase hline) (he H w _ fun v F1 H1 g1 r => by
    cases r
    have hl : ∀ {F2 W2 H2 : Hp}, Same F1 F2 → Wd F2 W2 H2 → H2 l = some (.frz od (.dK vs)) := fun e2 w2 => by
      rcases w2.f l _ (e2 _ _ (g1.ex _ _ hF)) with z | ⟨z, _⟩
      · exact z
      · cases z
    have hlen : (t.map (eP kd g)).length = vs.length := by rw [List.length_map, hk.len, eTm_len]
    refine ⟨l, od, vs, rfl, hl (Same.refl F1) g1.st, q _ _ _ F1 H1 g1 (by rw [hlen]; exact walk_items) (fun F2 W2 H2 e2 w2 => hl e2 w2) fun j F2 W2 H2 H3 x d e2 w2 y hd => ?_⟩
    rw [List.getElem?_map, Option.map_eq_some_iff] at hd
    obtain ⟨pr, hp, rfl⟩ := hd
    obtain ⟨u, hu, ru⟩ := repK_at ke hk j pr hp
    exact pair_yield w2 y (fun v hv => by
      rw [hu] at hv; cases hv
      exact ke.of F2 pr.1) fun v hv => by
      rw [hu] at hv; cases hv
      exact (ru.mono g1.ex).mono e2)
/-! ### signs of a text -/
def eSg (c : Nat) : D := .str ⟨#[c]⟩
def sgAt (z : Str) (i : Int) : Nat := (atI z.cps.toList i).getD 0
theorem ev_sg {z : Str} (ha : EvS X a σ F W (.str z) W1) (hb : EvS X b σ F W1 (.int i) W2) (hz : z.length ≤ sizeLine) (hx : (atI z.cps.toList i).isSome = true) (hs : ∀ v i, subscripted b false v i = operate [v, i] (getItem v i) := by intro _ _; rfl) : EvS X (.Subscript a b pos) σ F W (eSg (sgAt z i)) W2 := fun H w Q q =>
  tm_of (pe_ix ix_str pe_tm pe_tm hs) (ha H w _ fun v F1 H1 g1 r => (hb.mono g1.ex).then g1 fun v2 F2 H2 g2 g02 r2 => by
    cases r; cases r2
    obtain ⟨c, hc⟩ := Option.isSome_iff_exists.mp hx
    refine ⟨z, i, c, rfl, rfl, hz, hc, q _ F2 H2 g02 ?_⟩
    unfold sgAt; rw [hc]; exact .str _)
theorem cm_sgIn {c : Nat} {z : Str} : CmpR X .In F W (eSg c) (.str z) (decide (c ∈ z.cps.toList)) := ⟨_, op_inS, fun v1 v2 F1 H1 _ r1 r2 w Q q => by
  cases r1; cases r2
  exact ⟨c, z, rfl, rfl, q _ F1 H1 (Go.refl w) (.bl _)⟩⟩
theorem cm_sgNi {c : Nat} {z : Str} : CmpR X .NotIn F W (eSg c) (.str z) (!decide (c ∈ z.cps.toList)) := ⟨_, op_notInS, fun v1 v2 F1 H1 _ r1 r2 w Q q => by
  cases r1; cases r2
  exact ⟨c, z, rfl, rfl, q _ F1 H1 (Go.refl w) (.bl _)⟩⟩
theorem ei_sg {z : Str} (h : EvS X e σ F W (.str z) W1) : EvI X tg e σ F W (z.cps.toList.map eSg) W1 := fun H w R q =>
  tmI_of (pi_str pe_tm) (h H w _ fun v F1 H1 g1 r => by
    cases r
    refine ⟨z, rfl, q _ _ _ F1 H1 g1 (by rw [List.length_map, Array.length_toList]; exact walk_str) (fun _ _ _ _ _ => trivial) fun j F2 W2 H2 H3 x d e2 w2 y hd => ?_⟩
    obtain ⟨rfl, c, hc, rfl⟩ := y
    rw [List.getElem?_map, Array.getElem?_toList, hc] at hd
    cases hd
    exact ⟨F2, Go.refl w2, .str _⟩)
/-! ### in an owned list -/
theorem cm_inW {α : Type} [DecidableEq α] {f : α → D} {k m : Nat} {x : α} {xs : List α} {l : Addr} {vs : List V} (hr : Room k X.A) (lw : Lw f m) (hw : W l = some (.lst vs)) (h : Reps F vs (xs.map f)) (hn : m ≤ 60 := by decide) : CmpR X .In F W (f x) (.ow l) (decide (x ∈ xs)) :=
  ⟨_, op_inP hr, fun v1 v2 F1 H1 e1 r1 r2 w Q q => by
    cases r2
    refine ⟨(f x).pd, D.pds (xs.map f), r1.dp w (lw.pl x), .inl (.lst (SqL.of (w.w l _ hw)) (Reps.dp w (h.mono e1) lw.pls)), D.pl_plain _ (lw.pl x), D.pls_plain _ lw.pls, Nat.le_trans (lw.dep x) hn, ?_⟩
    have e : ((D.pds (xs.map f)).any fun y => PyData.eqv y (f x).pd) = decide (x ∈ xs) := by rw [D.pds_map, List.any_map]; exact lw.any
    rw [if_neg Bool.false_ne_true, e]
    exact q _ F1 H1 (Go.refl w) (.bl _)⟩
theorem cm_niW {α : Type} [DecidableEq α] {f : α → D} {k m : Nat} {x : α} {xs : List α} {l : Addr} {vs : List V} (hr : Room k X.A) (lw : Lw f m) (hw : W l = some (.lst vs)) (h : Reps F vs (xs.map f)) (hn : m ≤ 60 := by decide) : CmpR X .NotIn F W (f x) (.ow l) (!decide (x ∈ xs)) :=
  ⟨_, op_niP hr, fun v1 v2 F1 H1 e1 r1 r2 w Q q => by
    cases r2
    refine ⟨(f x).pd, D.pds (xs.map f), r1.dp w (lw.pl x), .inl (.lst (SqL.of (w.w l _ hw)) (Reps.dp w (h.mono e1) lw.pls)), D.pl_plain _ (lw.pl x), D.pls_plain _ lw.pls, Nat.le_trans (lw.dep x) hn, ?_⟩
    have e : ((D.pds (xs.map f)).any fun y => PyData.eqv y (f x).pd) = decide (x ∈ xs) := by rw [D.pds_map, List.any_map]; exact lw.any
    rw [if_pos rfl, e]
    exact q _ F1 H1 (Go.refl w) (.bl _)⟩
end
end Z
set_option Elab.async false
set_option linter.all false
set_option maxRecDepth 100000
set_option maxHeartbeats 1000000
namespace Z
open PySem PySem.Spec PyProof.Rows L2
section
variable {X : Cx} {e a b c : Expr} {es : List Expr} {σ : L2.St} {F F1 W W1 W2 : Hp} {d d1 d2 : D} {ds : List D} {pos : Pos} {A : AE} {rest : List Stmt} {K : V → Hp → Hp → Prop}
/-- an expression, whatever follows -/
def EvC (X : Cx) (e : Expr) (σ : L2.St) (F W : Hp) (K : V → Hp → Hp → Prop) : Prop := ∀ H, Wd F W H → ∀ Q : VK, (∀ v F' W' H', Go F W H F' W' H' → K v F' W' → Q v H') → tmE X e σ H Q
theorem ec_S (h : EvS X e σ F W d W1) (k : ∀ v F1, Same F F1 → Rep F1 v d → K v F1 W1) : EvC X e σ F W K := fun H w Q q => h H w Q fun v F' H' g r => q v F' W1 H' g (k v F' g.ex r)
theorem ec_N (h : EvN X e σ F W ds W1) (k : ∀ p vs F1, Same F F1 → Reps F1 vs ds → W1 p = none → K (.ref p) F1 (upd W1 p (.lst vs))) : EvC X e σ F W K := fun H w Q q => h H w Q fun p vs F' H' g r wp fp => q _ F' _ H' g (k p vs F' g.ex r wp)
theorem ec_M {kvs : List (Key × D)} (h : EvM X e σ F W kvs W1) (k : ∀ p vs F1, Same F F1 → RepK F1 vs kvs → W1 p = none → K (.ref p) F1 (upd W1 p (.dK vs))) : EvC X e σ F W K := fun H w Q q => h H w Q fun p vs F' H' g r wp fp => q _ F' _ H' g (k p vs F' g.ex r wp)
theorem bl_par2C {i j : Nat} {x y : Str} {px py pt : Pos} {kt k2 pt2} (h : EvC X a σ F W fun v1 F1 W1 => EvC X b σ F1 W1 fun v2 F2 W2 => BlkS X rest ((σ.set i (some v1)).set j (some v2)) F2 W2 A) (hi : X.N[i]? = some x := by rfl) (hj : X.N[j]? = some y := by rfl) (hij : i ≠ j := by decide)
    (hx : X.env.scope.names.lookup x = some .local := by rfl) (hy : X.env.scope.names.lookup y = some .local := by rfl) (hw : swappedStores [.Tuple [.Name x px, .Name y py] kt pt] (.Tuple [a, b] k2 pt2) X.env = pure (some [x, y]) := by rfl)
    (hs : swapsWithSole [.Tuple [.Name x px, .Name y py] kt pt] (.Tuple [a, b] k2 pt2) pos.line X.env = pure false := by rfl) (hc : X.calm = true := by rfl) (hN : X.N.Nodup := by first | assumption | decide +kernel)
    (h1 : starEach [a, b] X.env = (false, eval a X.env) :: starEach [b] X.env := by rfl) (h2 : starEach [b] X.env = (false, eval b X.env) :: starEach [] X.env := by rfl) :
    BlkS X (.Assign [.Tuple [.Name x px, .Name y py] kt pt] (.Tuple [a, b] k2 pt2) pos :: rest) σ F W A := fun H w E ok =>
  tmB_of (pss_cons (ps_par hc hN hi hj hij hx hy (pa_cons pe_tm (pa_cons pe_tm pa_nil h2) h1) hw hs) pss_tm) (h H w _ fun v1 F1 W1 H1 g1 k1 => k1 H1 g1.st _ fun v2 F2 W2 H2 g2 k2 => ⟨v1, v2, rfl, k2.run ok (g1.trans g2)⟩)
theorem bl_par3C {i j l : Nat} {x y z : Str} {px py pz pt : Pos} {kt k2 pt2} (h : EvC X a σ F W fun v1 F1 W1 => EvC X b σ F1 W1 fun v2 F2 W2 => EvC X c σ F2 W2 fun v3 F3 W3 => BlkS X rest (((σ.set i (some v1)).set j (some v2)).set l (some v3)) F3 W3 A) (hi : X.N[i]? = some x := by rfl) (hj : X.N[j]? = some y := by rfl) (hl : X.N[l]? = some z := by rfl) (hij : i ≠ j := by decide) (hil : i ≠ l := by decide) (hjl : j ≠ l := by decide)
    (hx : X.env.scope.names.lookup x = some .local := by rfl) (hy : X.env.scope.names.lookup y = some .local := by rfl) (hz : X.env.scope.names.lookup z = some .local := by rfl) (hw : swappedStores [.Tuple [.Name x px, .Name y py, .Name z pz] kt pt] (.Tuple [a, b, c] k2 pt2) X.env = pure (some [x, y, z]) := by rfl)
    (hs : swapsWithSole [.Tuple [.Name x px, .Name y py, .Name z pz] kt pt] (.Tuple [a, b, c] k2 pt2) pos.line X.env = pure false := by rfl) (hc : X.calm = true := by rfl) (hN : X.N.Nodup := by first | assumption | decide +kernel)
    (h1 : starEach [a, b, c] X.env = (false, eval a X.env) :: starEach [b, c] X.env := by rfl) (h2 : starEach [b, c] X.env = (false, eval b X.env) :: starEach [c] X.env := by rfl) (h3 : starEach [c] X.env = (false, eval c X.env) :: starEach [] X.env := by rfl) :
    BlkS X (.Assign [.Tuple [.Name x px, .Name y py, .Name z pz] kt pt] (.Tuple [a, b, c] k2 pt2) pos :: rest) σ F W A := fun H w E ok =>
  tmB_of (pss_cons (ps_par3 hc hN hi hj hl hij hil hjl hx hy hz (pa_cons pe_tm (pa_cons pe_tm (pa_cons pe_tm pa_nil h3) h2) h1) hw hs) pss_tm)
    (h H w _ fun v1 F1 W1 H1 g1 k1 => k1 H1 g1.st _ fun v2 F2 W2 H2 g2 k2 => k2 H2 g2.st _ fun v3 F3 W3 H3 g3 k3 => ⟨v1, v2, v3, rfl, k3.run ok ((g1.trans g2).trans g3)⟩)
/-- by way of a tuple -/
theorem bl_asgTC {tg : Expr} (h : EvC X e σ F W fun v F1 W1 => TgT X tg v σ F1 W1 fun σ2 => BlkS X rest σ2 F1 W1 A) (hs : swapsWithSole [tg] e pos.line X.env = pure false := by rfl) (hw : swappedStores [tg] e X.env = pure none := by rfl)
    (h1 : (assignEach [tg] X.env).map (·.2) = [assign tg X.env] := by rfl) : BlkS X (.Assign [tg] e pos :: rest) σ F W A := fun H w E o =>
  tmB_of (pss_cons (ps_asg pe_tm pg_tm hs hw h1) pss_tm) (h H w _ fun v F' W' H' g k => k H' g.st _ fun σ2 q => q.run o g)
theorem ec_tup2 {x1} (h : EvC X a σ F W fun v1 F1 W1 => EvC X b σ F1 W1 fun v2 F2 W2 => ∀ t F3, Same F2 F3 → F3 t = some (.tup [v1, v2]) → K (.ref t) F3 W2)
    (h1 : starEach [a, b] X.env = (false, eval a X.env) :: starEach [b] X.env := by rfl) (h2 : starEach [b] X.env = (false, eval b X.env) :: starEach [] X.env := by rfl) : EvC X (.Tuple [a, b] x1 pos) σ F W K := fun H w Q q =>
  tm_of (pe_tup (pa_cons pe_tm (pa_cons pe_tm pa_nil h2) h1)) (h H w _ fun v1 F1 W1 H1 g1 k1 => k1 H1 g1.st _ fun v2 F2 W2 H2 g2 k2 => ⟨sz_ok (by simp), fun p hp => by
    have g := (g1.trans g2).trans (Go.new (o := .tup [v1, v2]) g2.st hp)
    exact q _ _ _ _ g (k2 p _ (Go.new g2.st hp).ex upd_same)⟩)
theorem ec_tup3 {x1} (h : EvC X a σ F W fun v1 F1 W1 => EvC X b σ F1 W1 fun v2 F2 W2 => EvC X c σ F2 W2 fun v3 F3 W3 => ∀ t F4, Same F3 F4 → F4 t = some (.tup [v1, v2, v3]) → K (.ref t) F4 W3)
    (h1 : starEach [a, b, c] X.env = (false, eval a X.env) :: starEach [b, c] X.env := by rfl) (h2 : starEach [b, c] X.env = (false, eval b X.env) :: starEach [c] X.env := by rfl) (h3 : starEach [c] X.env = (false, eval c X.env) :: starEach [] X.env := by rfl) : EvC X (.Tuple [a, b, c] x1 pos) σ F W K := fun H w Q q =>
  tm_of (pe_tup (pa_cons pe_tm (pa_cons pe_tm (pa_cons pe_tm pa_nil h3) h2) h1)) (h H w _ fun v1 F1 W1 H1 g1 k1 => k1 H1 g1.st _ fun v2 F2 W2 H2 g2 k2 => k2 H2 g2.st _ fun v3 F3 W3 H3 g3 k3 => ⟨sz_ok (by simp), fun p hp => by
    have g := ((g1.trans g2).trans g3).trans (Go.new (o := .tup [v1, v2, v3]) g3.st hp)
    exact q _ _ _ _ g (k3 p _ (Go.new g3.st hp).ex upd_same)⟩)
theorem rep_tup {t : Addr} {vs : List V} (h : F t = some (.tup vs)) (r : Reps F vs ds) (hz : ds.length ≤ 100000) : Rep F (.ref t) (.sq true ds) := .sq (t := true) h r hz
theorem bl_goes {rest : List Stmt} (k : BlkS X rest σ F W A) : BlkS X [] σ F W { A with nx := fun σ' F' W' => BlkS X rest σ' F' W' A } := bl_nil k
variable {tg iter : Expr} {body : List Stmt}
/-- for, the turns counted -/
theorem bl_forK {α S : Type} {xs : List α} {f : α → D} (hi : EvI X tg iter σ F W (xs.map f) W1) (st : S → α → S) (s0 : S) (J : Nat → S → L2.St → Hp → Hp → Prop) (h0 : ∀ F1, Same F F1 → J 0 s0 σ F1 W1)
    (hs : ∀ i x, xs[i]? = some x → x ∈ xs → ∀ s, ∀ σ' F1 W', Same F F1 → J i s σ' F1 W' → ∀ v F2, Same F1 F2 → Rep F2 v (f x) → TgT X tg v σ' F2 W' fun σ2 =>
      BlkS X body σ2 F2 W' { nx := J (i + 1) (st s x), rt := A.rt, bk := fun σ' F' W' => BlkS X rest σ' F' W' A, ct := J (i + 1) (st s x) })
    (hd : ∀ σ' F1 W', Same F F1 → J xs.length (xs.foldl st s0) σ' F1 W' → BlkS X rest σ' F1 W' A) (hc : X.calm = true := by rfl) (hp : PassesOwn (model X.prog X.w) X.A X.env X.xe := by exact PassesOwn.never) (hf : ∀ x, foldedSetIterable iter X.env x = pure x := by intro _; rfl) :
    BlkS X (.For tg iter body [] pos :: rest) σ F W A :=
  bl_for (n := xs.length) hi (by rw [List.length_map]) (fun i σ' F' W' => J i ((xs.take i).foldl st s0) σ' F' W') h0 (fun i d h σ' F1 W' e inv v F2 e2 r => by
    rw [List.getElem?_map, Option.map_eq_some_iff] at h
    obtain ⟨x, hx, rfl⟩ := h
    have e1 : (xs.take (i + 1)).foldl st s0 = st ((xs.take i).foldl st s0) x := by rw [List.take_add_one, hx, List.foldl_append]; rfl
    rw [e1]
    exact hs i x hx (List.mem_of_getElem? hx) _ σ' F1 W' e inv v F2 e2 r) (fun σ' F1 W' e inv => hd σ' F1 W' e (by rw [List.take_length] at inv; exact inv)) hc hp hf
def memB {α : Type} [DecidableEq α] (x : α) (xs : List α) : Bool := decide (x ∈ xs)
theorem memB_iff {α : Type} [DecidableEq α] {x : α} {xs : List α} : memB x xs = true ↔ x ∈ xs := by unfold memB; exact decide_eq_true_iff
theorem wipe_set {σ : L2.St} {i : Nat} {x : Option V} : ∀ {vs : List Nat}, i ∈ vs → wipe (σ.set i x) vs = wipe σ vs := by
  intro vs
  have comm : ∀ (τ : L2.St) (vs : List Nat), wipe (τ.set i none) vs = (wipe τ vs).set i none := by
    intro τ vs
    induction vs with
    | nil => rfl
    | cons v vs ih =>
      show (wipe (τ.set i none) vs).set v none = ((wipe τ vs).set v none).set i none
      rw [ih]
      by_cases e : v = i
      · rw [e]
      · exact List.set_comm _ _ (fun q => e q.symm)
  have abs : ∀ (vs : List Nat), i ∈ vs → ∀ (τ : L2.St), wipe (τ.set i x) vs = wipe τ vs := by
    intro vs
    induction vs with
    | nil => intro h; cases h
    | cons v vs ih =>
      intro h τ
      show (wipe (τ.set i x) vs).set v none = (wipe τ vs).set v none
      by_cases e : i ∈ vs
      · rw [ih e]
      · have ev : v = i := by
          rcases List.mem_cons.mp h with q | q
          · exact q.symm
          · exact absurd q e
        subst ev
        have ne : ∀ (ws : List Nat), v ∉ ws → ∀ (τ : L2.St), wipe (τ.set v x) ws = (wipe τ ws).set v x := by
          intro ws
          induction ws with
          | nil => intro _ τ; rfl
          | cons w ws ih2 =>
            intro hn τ
            show (wipe (τ.set v x) ws).set w none = ((wipe τ ws).set w none).set v x
            rw [ih2 (fun q => hn (List.mem_cons_of_mem _ q))]
            exact List.set_comm _ _ (fun q => hn (q ▸ List.mem_cons_self))
        rw [ne vs e, List.set_set]
  exact fun h => abs vs h σ
theorem wipe_wipe {σ : L2.St} {vs : List Nat} : wipe (wipe σ vs) vs = wipe σ vs := by
  have key : ∀ (ws vs : List Nat) (τ : L2.St), (∀ w ∈ ws, w ∈ vs) → wipe (wipe τ ws) vs = wipe τ vs := by
    intro ws
    induction ws with
    | nil => intro vs τ _; rfl
    | cons w ws ih =>
      intro vs τ h
      show wipe ((wipe τ ws).set w none) vs = _
      rw [wipe_set (h w List.mem_cons_self), ih vs τ fun q hq => h q (List.mem_cons_of_mem _ hq)]
  exact key vs vs σ fun _ h => h
/-! ### two owned cells -/
theorem upd2_at {p q : Addr} {o u : HO} (h : q ≠ p) : upd (upd W p o) q u p = some o := by rw [upd_ne (Ne.symm h), upd_same]
theorem upd2_put {p q : Addr} {o o' u : HO} (h : q ≠ p) : upd (upd (upd W p o) q u) p o' = upd (upd W p o') q u := by
  funext x
  by_cases e1 : x = p
  · subst e1; rw [upd_same, upd_ne (Ne.symm h), upd_same]
  · rw [upd_ne e1]
    by_cases e2 : x = q
    · subst e2; rw [upd_same, upd_same]
    · rw [upd_ne e2, upd_ne e2, upd_ne e1, upd_ne e1]
theorem upd_none {p q : Addr} {o : HO} (h : upd W p o q = none) : q ≠ p ∧ W q = none := by
  have e : q ≠ p := fun e => by rw [e, upd_same] at h; cases h
  exact ⟨e, by rw [upd_ne e] at h; exact h⟩
theorem none_upd {p q : Addr} {o : HO} (e : q ≠ p) (h : W q = none) : upd W p o q = none := by rw [upd_ne e]; exact h
end
end Z
set_option Elab.async false
set_option linter.all false
set_option maxRecDepth 100000
set_option maxHeartbeats 3000000
namespace Z
open PySem PySem.Spec PyProof.Rows L2
open PySem.Froz (sObj TxOk addTx tailTx SD)
/-- a set of the texts l, whose table rises -/
structure TxR (P : Program) (w : World) (Dt : SD) (l : List Str) : Prop where
  ok : TxOk P w Dt l
  ris : Ris Dt.2.2.place.toList
  led : w.params.followText "set-order" = true ∨ Dt.2.2.led = true
section
variable {P : Program} {w : World} {A : Around} {E : Value → Shared → Prop} {s : Shared}
theorem tail_ris {ep : Nat} {es1 : Array (Int × Value)} {t2 : SetTable} {b : Bool} (h : Ris t2.place.toList) : Ris (tailTx ep es1 t2 b).2.2.place.toList ∧ (tailTx ep es1 t2 b).2.2.led = t2.led := by
  unfold tailTx
  split
  · exact ⟨relayAll_ris t2 es1 _, relayAll_led t2 es1 _⟩
  · exact ⟨h, rfl⟩
theorem add_txR {Dt : SD} {l : List Str} {k : Str} (u : Tok) (F : TxR P w Dt l) : TxR P w (addTx (hashStr w k) (.str k u) Dt) (k :: l) := by
  have r1 := layNew_ris Dt.2.2 Dt.1 (hashStr w k) (.str k u) F.ris
  have l1 := layNew_led Dt.2.2 Dt.1 (hashStr w k) (.str k u)
  have key : ∀ t2 : SetTable, Ris t2.place.toList → t2.led = Dt.2.2.led → ∀ ep es1 b, Ris (tailTx ep es1 t2 b).2.2.place.toList ∧ (w.params.followText "set-order" = true ∨ (tailTx ep es1 t2 b).2.2.led = true) := fun t2 a1 a2 ep es1 b => by
    obtain ⟨b1, b2⟩ := tail_ris (ep := ep) (es1 := es1) (b := b) a1
    exact ⟨b1, F.led.imp id fun q => by rw [b2, a2]; exact q⟩
  have fin : Ris (addTx (hashStr w k) (.str k u) Dt).2.2.place.toList ∧ (w.params.followText "set-order" = true ∨ (addTx (hashStr w k) (.str k u) Dt).2.2.led = true) := by
    unfold addTx
    by_cases c : (layNew Dt.2.2 Dt.1 (hashStr w k) (.str k u)).2.1.plain = true
    · rw [if_pos c]; exact key _ (by exact r1) (by exact l1) _ _ _
    · rw [if_neg c]; exact key _ (by exact r1) (by exact l1) _ _ _
  exact ⟨PySem.Froz.add_ok u F.ok, fin.1, fin.2⟩
/-- the texts of a walk, each new, put into the set at S -/
theorem set_update_txt {I : Addr} {fp wr : List Addr} {G : Array GenState → Array GenState → Prop} {n : Nat} {Pv : Nat → Value → Prop} {St : Nat → Shared → Prop} {R : Result → Shared → Prop}
    (W : WalksS P w A.in1 I fp wr G n Pv St) (S : Addr) (hSf : S ∉ fp) (xs : List Str) (hn : n = xs.length) (hb : xs.length + 1 < scanBound) (hd : xs.Nodup) (hval : ∀ i v, Pv i v → ∃ k t, xs[i]? = some k ∧ v = .str k t) :
    ∀ (k i : Nat) (s : Shared), n - i = k → i ≤ n → St i s → (∃ Dt l, s.heap.get? S = some (sObj "set" Dt) ∧ TxR P w Dt l ∧ l.Perm (xs.take i)) →
      (∀ s' Dt l, Moved (S :: wr) G s s' → s'.heap.get? S = some (sObj "set" Dt) → TxR P w Dt l → l.Perm xs → R (.ok (.ret .none)) s') →
      codeAny (model P w) A (.builtin "set.update.loop" ⟨[.ref S, .ref I], []⟩) R s := by
  have nw : S ∉ wr := fun h => hSf (W.sub _ h)
  have up : ∀ b ∈ wr, b ∈ S :: wr := fun b hb => List.mem_cons_of_mem _ hb
  intro k
  induction k with
  | zero =>
    intro i s hk hi st ⟨Dt, l, ho, FX, hp⟩ hR
    obtain rfl : i = n := by omega
    refine codeAny_builtin F.entry_set_update_loop ?_
    rw [Around.under_plainId F.plain_set_update_loop _]
    show wpAny _ A.in1 (pyNext (.ref I) >>= _) _ _ s
    refine wpAny_bind (W.done s _ _ st fun s' hm => ?_)
    show wpAny _ A.in1 (ret Value.none) _ _ s'
    rw [List.take_of_length_le (by omega)] at hp
    exact wpAny_pure (hR s' Dt l (hm.mono up) (hm.heap S _ nw ho) FX hp)
  | succ k ih =>
    intro i s hk hi st ⟨Dt, l, ho, FX, hp⟩ hR
    have lt : i < n := by omega
    refine codeAny_builtin F.entry_set_update_loop ?_
    rw [Around.under_plainId F.plain_set_update_loop _]
    show wpAny _ A.in1 (pyNext (.ref I) >>= _) _ _ s
    refine wpAny_bind (W.item i s _ _ lt st fun v s' hP st' hm => ?_)
    obtain ⟨z, t, hz, rfl⟩ := hval i v hP
    have ho2 : s'.heap.get? S = some (sObj "set" Dt) := hm.heap S _ nw ho
    show wpAny _ A.in1 (holding [Value.str z t] (setAdd S (.str z t)) >>= _) _ _ s'
    refine wpAny_bind (wpAny_holding ?_)
    unfold setAdd
    refine wpAny_holding (wpAny_bind ((PySem.strKind P w).pyHash (k := z) (PySem.Froz.is_str z t) ?_))
    have hzl : z ∉ l := fun q => by
      have q2 := hp.mem_iff.mp q
      obtain ⟨j, hj, e⟩ := List.mem_iff_getElem.mp q2
      rw [List.length_take] at hj
      rw [List.getElem_take] at e
      obtain ⟨hi2, e2⟩ := List.getElem?_eq_some_iff.mp hz
      have := List.pairwise_iff_getElem.mp hd j i (by omega) hi2 (by omega)
      exact this (e.trans e2.symm)
    have hll : l.length ≤ i := by rw [hp.length_eq, List.length_take]; omega
    refine PySem.Froz.add_x (s := { s' with toks := s'.toks + 1 }) (l := l) ho2 FX.ok hzl (by omega) ?_
    have ho3 : (s'.heap.update S (fun _ => sObj "set" (addTx (hashStr w z) (.str z t) Dt))).get? S = some (sObj "set" (addTx (hashStr w z) (.str z t) Dt)) := PySem.Froz.get_upd _ ho2 rfl
    have keep : ∀ b o, b ≠ S → s'.heap.get? b = some o → (s'.heap.update S (fun _ => sObj "set" (addTx (hashStr w z) (.str z t) Dt))).get? b = some o := fun b o hb e => (Heap.get?_update_other _ _ (Ne.symm hb)).trans e
    refine wpAny_pure ⟨plainId_quiet F.plain_set_update_loop _, ih (i + 1) _ (by omega) lt (W.frame _ s' _ _ st' (Nat.le_succ _) fun b hb o e => keep b o (fun h => hSf (h ▸ hb)) e) ⟨_, z :: l, ho3, add_txR t FX, ?_⟩ fun s'' Dt2 l2 hm2 a1 a2 a3 => ?_⟩
    · rw [List.take_add_one, hz]
      exact (hp.cons z).trans (List.perm_append_singleton z (xs.take i)).symm
    · exact hR s'' Dt2 l2 (Moved.trans W.gtrans ((hm.mono up).then_heap (Nat.le_succ _) fun b o hb e => keep b o (fun h => hb (by rw [h]; exact List.mem_cons_self)) e) hm2) a1 a2 a3
theorem tx_new : TxR P w (#[], 0, .fresh 0 0 (!w.params.followText "set-order")) [] := ⟨PySem.Froz.TxOk.nil rfl, List.Pairwise.nil, by
  show _ ∨ (!w.params.followText "set-order") = true
  cases w.params.followText "set-order"
  · exact .inr rfl
  · exact .inl rfl⟩
/-- set(l) of a tuple of different texts -/
theorem call_setTx {l : Addr} {its : Array Value} (xs : List Str) {Q : Value → Shared → Prop} (hh : A.handled = none) (hl : s.heap.IsTuple l its) (hit : PyProof.Rows.StrsAre its.toList xs) (hd : xs.Nodup) (hb : xs.length + 1 < scanBound)
    (k : ∀ (h' : Heap) (tk : Nat) (Dt : SD) (l' : List Str), h'.get? s.heap.objs.size = some (sObj "set" Dt) → TxR P w Dt l' → l'.Perm xs → (∀ b o, s.heap.get? b = some o → h'.get? b = some o) → Q (.ref s.heap.objs.size) { s with heap := h', toks := tk }) :
    wpAny (model P w) A (call (.type "set") [.ref l]) Q E s := by
  have hz : its.size = xs.length := by have q := StrsAre.len_eq hit; rw [Array.length_toList] at q; exact q
  obtain ⟨c0, tl0, mro0⟩ := F.called_set.mro
  have made0 := F.called_set.made
  have sub0 := F.called_set.sub
  refine wpAny_call (codeAny_of_tree ?_)
  show wpAny _ _ (callAny (.type "set") _) _ _ _
  refine wpAny_pure ⟨Code.quiet_builtin _ (by decide +kernel), codeAny_builtin F.entry_type_call ?_⟩
  rw [Around.under_plain (weight_type_call_type "set" [.ref l] []) rfl]
  have nt0 := F.called_set.notType
  have cc0 := F.called_set.canCreate
  have tc0 := F.typeCall_set_1 (.ref l)
  repeat (any_goals (first | assumption | wp_step))
  refine codeAny_mono (code_set_led1 (.ref l) (E := E) (Q₁ := fun obj s₁ => obj = .ref s.heap.objs.size ∧ s₁ = { s with heap := s.heap.push (nS w) }) ⟨rfl, rfl⟩) fun r s₁ hr => ?_
  rcases r with e | fl
  · exact hr
  cases fl with
  | ret obj =>
    obtain ⟨rfl, rfl⟩ := hr
    have hS : (s.heap.push (nS w)).get? s.heap.objs.size = some (nS w) := Heap.get?_push_size _ rfl
    have hT : Shared.TypeIs { s with heap := s.heap.push (nS w) } (.ref s.heap.objs.size) "set" := ⟨_, hS, rfl⟩
    have il0 := F.called_set.init.lookup
    have ib0 := F.called_set.init.bind (.ref s.heap.objs.size)
    repeat (any_goals (first | assumption | wp_step))
    refine codeAny_mono (codeAny_call_builtin (R := wants (fun r s₂ => r = .none ∧ ∃ h' tk Dt l', s₂ = { s with heap := h', toks := tk } ∧ h'.get? s.heap.objs.size = some (sObj "set" Dt) ∧ TxR P w Dt l' ∧ l'.Perm xs ∧ (∀ b o, s.heap.get? b = some o → h'.get? b = some o)) E) F.called_set.init.plain F.entry_set_init (check_set_init_1 hT ?_)) fun r₂ s₂ hr₂ => ?_
    · obtain ⟨⟨ocls, odict, odata, oslots⟩, ho, hcl, nl, hdl⟩ := hl
      dsimp only at hcl hdl
      subst hcl hdl
      have ho' : (s.heap.push (nS w)).get? l = some ⟨.type "tuple", odict, .seq its nl, oslots⟩ := Heap.get?_push_of_some _ ho
      have sl1 := F.sub_tuple_set
      have sl2 := F.sub_tuple_frozenset
      have ne1 : (Value.type "tuple" == Value.type "dict") = false := by decide
      have il : (s.heap.push (nS w)).IsTuple l its := ⟨_, ho', rfl, nl, rfl⟩
      unfold Builtin.«set.__init__» noKeywords Builtin.Frozenset.updateFrom
      generalize hPI : pyIter = PI
      wp_walk
      subst hPI
      refine wpAny_pyIter_tuple il (wpAny_bind (wpAny_runValue ?_))
      have lS : l < s.heap.objs.size := Heap.lt_size ho
      have h3 : A.in1.in1.in1.handled = none := by simp [hh]
      have sz : (s.heap.push (nS w)).objs.size = s.heap.objs.size + 1 := Heap.size_push ..
      have nI : l ≠ (s.heap.push (nS w)).objs.size := Nat.ne_of_lt (by rw [sz]; exact Nat.lt_succ_of_lt lS)
      have nF : s.heap.objs.size ∉ [(s.heap.push (nS w)).objs.size, l] := by
        simp only [List.mem_cons, List.not_mem_nil, or_false, not_or, sz]
        exact ⟨Nat.ne_of_lt (Nat.lt_succ_self _), Nat.ne_of_gt lS⟩
      have val : ∀ (i : Nat) (v : Value), its[i]? = some v → ∃ k t, xs[i]? = some k ∧ v = .str k t := fun i v hv => by
        have hi : i < xs.length := hz ▸ (Array.getElem?_eq_some_iff.mp hv).1
        obtain ⟨t, e⟩ := SS.strs_at hit i v (by rw [Array.getElem?_toList]; exact hv)
        exact ⟨xs[i], t, List.getElem?_eq_getElem hi, by rw [e, List.getD_eq_getElem?_getD, List.getElem?_eq_getElem hi]; rfl⟩
      refine set_update_txt ((Walks.tuple h3 _ l nI its).toS) s.heap.objs.size nF xs hz hb hd val (its.size - 0) 0 _ (by omega) (Nat.zero_le _) ⟨⟨_, Heap.get?_push_size _ rfl, rfl, rfl⟩, (il.push _)⟩ ?a1 ?a2
      case a1 => exact ⟨(#[], 0, .fresh 0 0 (!w.params.followText "set-order")), [], Heap.get?_push_of_some _ hS, tx_new, by simp⟩
      case a2 =>
        intro s' Dt l' hm hS' hF' hp'
        obtain ⟨h', g2, d', tk', os'⟩ := s'
        obtain rfl : g2 = s.gens := hm.gens
        obtain rfl : d' = s.drawn := hm.drawn
        obtain rfl : os' = s.os := hm.os
        show wpAny _ _ _ _ _ _
        refine wpAny_pure ?_
        show wpAny _ _ (ret Value.none) _ _ _
        refine wpAny_pure ⟨rfl, h', tk', Dt, l', rfl, hS', hF', hp', fun b o e => ?_⟩
        have b0 : b < s.heap.objs.size := Heap.lt_size e
        refine hm.heap b o ?_ (Heap.get?_push_of_some _ (Heap.get?_push_of_some _ e))
        simp only [List.mem_cons, List.not_mem_nil, or_false, not_or, sz]
        exact ⟨Nat.ne_of_lt b0, Nat.ne_of_lt (Nat.lt_succ_of_lt b0)⟩
    · rcases r₂ with e | fl₂
      · exact hr₂
      cases fl₂ with
      | ret r =>
        obtain ⟨rfl, h', tk', Dt, l', rfl, hS', hF', hp', hk'⟩ := hr₂
        repeat (any_goals (first | assumption | wp_step))
        exact k _ _ _ _ hS' hF' hp' hk'
      | _ => exact hr₂.elim
  | _ => exact hr.elim
end
end Z
set_option Elab.async false
set_option linter.all false
set_option maxRecDepth 100000
set_option maxHeartbeats 1000000
namespace Z
open PySem PySem.Spec PyProof.Rows L2
open PySem.Froz (sObj SD)
/-! ## texts in their order -/
def ltS (a b : Str) : Bool := ltCps a.cps.toList b.cps.toList
theorem ltc_irr : ∀ a : List Nat, ltCps a a = false
  | [] => rfl
  | x :: a => by simp [ltCps, ltc_irr a]
theorem ltc_tr : ∀ {a b c : List Nat}, ltCps a b = true → ltCps b c = true → ltCps a c = true
  | [], [], _, h, _ => by simp [ltCps] at h
  | [], _ :: _, [], _, h => by simp [ltCps] at h
  | [], _ :: _, _ :: _, _, _ => rfl
  | _ :: _, [], _, h, _ => by simp [ltCps] at h
  | _ :: _, _ :: _, [], _, h => by simp [ltCps] at h
  | x :: a, y :: b, z :: c, h1, h2 => by
    simp only [ltCps, Bool.or_eq_true, Bool.and_eq_true, decide_eq_true_eq, beq_iff_eq] at h1 h2 ⊢
    rcases h1 with h1 | ⟨e1, h1⟩ <;> rcases h2 with h2 | ⟨e2, h2⟩
    · left; omega
    · left; omega
    · left; omega
    · right; exact ⟨by omega, ltc_tr h1 h2⟩
theorem ltc_tot : ∀ {a b : List Nat}, ltCps a b = false → ltCps b a = false → a = b
  | [], [], _, _ => rfl
  | [], _ :: _, h, _ => by simp [ltCps] at h
  | _ :: _, [], _, h => by simp [ltCps] at h
  | x :: a, y :: b, h1, h2 => by
    simp only [ltCps, Bool.or_eq_false_iff, Bool.and_eq_false_iff, decide_eq_false_iff_not, beq_eq_false_iff_ne] at h1 h2
    have e : x = y := by omega
    subst e
    rw [ltc_tot (h1.2.resolve_left (by simp)) (h2.2.resolve_left (by simp))]
theorem ltS_irr (a : Str) : ltS a a = false := ltc_irr _
theorem ltS_tr {a b c : Str} (h : ltS a b = true) (h2 : ltS b c = true) : ltS a c = true := ltc_tr h h2
theorem str_of {a b : Str} (h : a.cps.toList = b.cps.toList) : a = b := by
  obtain ⟨⟨x⟩⟩ := a
  obtain ⟨⟨y⟩⟩ := b
  have h : x = y := h
  rw [h]
theorem ltS_tot {a b : Str} (h : ltS a b = false) (h2 : ltS b a = false) : a = b := str_of (ltc_tot h h2)
abbrev AscS (l : List Str) : Prop := l.Pairwise fun a b => ltS a b = true
theorem ascS_eq : ∀ {l m : List Str}, AscS l → AscS m → (∀ k, k ∈ l ↔ k ∈ m) → l = m
  | [], [], _, _, _ => rfl
  | [], y :: m, _, _, h => absurd ((h y).mpr List.mem_cons_self) (by simp)
  | x :: l, [], _, _, h => absurd ((h x).mp List.mem_cons_self) (by simp)
  | x :: l, y :: m, hl, hm, h => by
    obtain ⟨l1, l2⟩ := List.pairwise_cons.mp hl
    obtain ⟨m1, m2⟩ := List.pairwise_cons.mp hm
    have no : ∀ {a b : Str}, ltS a b = true → ltS b a = true → False := fun p q => by
      have := ltS_tr p q; rw [ltS_irr] at this; cases this
    have e : x = y := by
      rcases List.mem_cons.mp ((h x).mp List.mem_cons_self) with e | e
      · exact e
      rcases List.mem_cons.mp ((h y).mpr List.mem_cons_self) with e2 | e2
      · exact e2.symm
      exact (no (m1 x e) (l1 y e2)).elim
    subst e
    rw [ascS_eq l2 m2 fun k => ?_]
    constructor
    · intro q
      rcases List.mem_cons.mp ((h k).mp (List.mem_cons_of_mem _ q)) with e | e
      · rw [e] at q; have := l1 x q; rw [ltS_irr] at this; cases this
      · exact e
    · intro q
      rcases List.mem_cons.mp ((h k).mpr (List.mem_cons_of_mem _ q)) with e | e
      · rw [e] at q; have := m1 x q; rw [ltS_irr] at this; cases this
      · exact e
def insS (x : Str) : List Str → List Str
  | [] => [x]
  | y :: r => if ltS x y = true then x :: y :: r else if x = y then y :: r else y :: insS x r
def sortS (xs : List Str) : List Str := xs.foldr insS []
theorem mem_insS {k x : Str} : ∀ {l : List Str}, k ∈ insS x l ↔ k = x ∨ k ∈ l
  | [] => by simp [insS]
  | y :: r => by
    unfold insS
    split
    · simp
    · split
      · rename_i e; subst e; simp
      · rw [List.mem_cons, mem_insS, List.mem_cons]
        constructor
        · rintro (a | a | a)
          · exact .inr (.inl a)
          · exact .inl a
          · exact .inr (.inr a)
        · rintro (a | a | a)
          · exact .inr (.inl a)
          · exact .inl a
          · exact .inr (.inr a)
theorem asc_insS {x : Str} : ∀ {l : List Str}, AscS l → AscS (insS x l)
  | [], _ => List.pairwise_singleton _ _
  | y :: r, h => by
    obtain ⟨h1, h2⟩ := List.pairwise_cons.mp h
    unfold insS
    split
    · rename_i q
      refine List.pairwise_cons.mpr ⟨fun z hz => ?_, h⟩
      rcases List.mem_cons.mp hz with e | e
      · rw [e]; exact q
      · exact ltS_tr q (h1 z e)
    · split
      · exact h
      · rename_i q1 q2
        refine List.pairwise_cons.mpr ⟨fun z hz => ?_, asc_insS h2⟩
        rcases mem_insS.mp hz with e | e
        · rw [e]
          cases q3 : ltS y x with
          | true => rfl
          | false => exact absurd (ltS_tot (by simpa using q1) q3) q2
        · exact h1 z e
theorem asc_sortS (xs : List Str) : AscS (sortS xs) := by
  unfold sortS
  induction xs with
  | nil => exact List.Pairwise.nil
  | cons x xs ih => exact asc_insS ih
theorem mem_sortS {k : Str} {xs : List Str} : k ∈ sortS xs ↔ k ∈ xs := by
  unfold sortS
  induction xs with
  | nil => simp
  | cons x xs ih => rw [List.foldr_cons, mem_insS, ih, List.mem_cons]
theorem insS_len (x : Str) : ∀ l : List Str, (insS x l).length ≤ l.length + 1
  | [] => Nat.le_refl _
  | y :: r => by
    unfold insS
    have := insS_len x r
    split
    · simp
    · split <;> simp only [List.length_cons] <;> omega
theorem sortS_len (xs : List Str) : (sortS xs).length ≤ xs.length := by
  unfold sortS
  induction xs with
  | nil => exact Nat.le_refl _
  | cons x xs ih => rw [List.foldr_cons]; have := insS_len x (xs.foldr insS []); simp only [List.length_cons]; omega
/-- what a sort leaves of different texts -/
theorem sorted_asc : ∀ {ys : List Str}, sortedS ys = true → ys.Nodup → AscS ys := by
  have key : ∀ (l : List Str) (p : Str), risingS p l = true → (p :: l).Nodup → AscS (p :: l) := by
    intro l
    induction l with
    | nil => intro p _ _; exact List.pairwise_singleton _ _
    | cons x l ih =>
      intro p h hn
      have h : (!ltCps x.cps.toList p.cps.toList && risingS x l) = true := h
      rw [Bool.and_eq_true, Bool.not_eq_true'] at h
      obtain ⟨n1, n2⟩ := List.nodup_cons.mp hn
      have i1 := ih x h.2 n2
      have hpx : ltS p x = true := by
        cases q : ltS p x with
        | true => rfl
        | false => exact absurd (ltS_tot q h.1) (fun e => n1 (e ▸ List.mem_cons_self))
      refine List.pairwise_cons.mpr ⟨fun z hz => ?_, i1⟩
      rcases List.mem_cons.mp hz with e | e
      · rw [e]; exact hpx
      · exact ltS_tr hpx ((List.pairwise_cons.mp i1).1 z e)
  intro ys h hn
  cases ys with
  | nil => exact List.Pairwise.nil
  | cons x r => exact key r x h hn
theorem sortS_of {ys xs : List Str} (hp : ys.Perm xs) (hs : sortedS ys = true) (hn : xs.Nodup) : ys = sortS xs :=
  ascS_eq (sorted_asc hs (hp.nodup_iff.mpr hn)) (asc_sortS xs) fun k => by rw [hp.mem_iff, mem_sortS]
theorem perm_of {α : Type} [DecidableEq α] : ∀ (l ks : List α), l.Nodup → (∀ k ∈ l, k ∈ ks) → ks.length = l.length → ks.Perm l
  | [], ks, _, _, h => by
    have : ks = [] := List.length_eq_zero_iff.mp h
    rw [this]
  | x :: l, ks, hn, hm, hl => by
    obtain ⟨n1, n2⟩ := List.nodup_cons.mp hn
    have hx := hm x List.mem_cons_self
    have hl2 : (ks.erase x).length = l.length := by rw [List.length_erase_of_mem hx, hl]; rfl
    refine (List.perm_cons_erase hx).trans ((perm_of l (ks.erase x) n2 (fun k hk => ?_) hl2).cons x)
    exact (List.mem_erase_of_ne (fun e => n1 (by rw [← e]; exact hk))).mpr (hm k (List.mem_cons_of_mem _ hk))
/-! ## the set of texts, sorted -/
def SetX (P : Program) (w : World) (a : Addr) (xs : List Str) : HO := .ext fun h => ∃ Dt l, h.get? a = some (sObj "set" Dt) ∧ TxR P w Dt l ∧ l.Perm xs
theorem setX_new {P : Program} {w : World} {H : Hp} {h : Heap} {a : Addr} {xs : List Str} {Dt : SD} {l : List Str} (ho : h.get? a = some (sObj "set" Dt)) (F : TxR P w Dt l) (p : l.Perm xs) : ObjOk P w H h a (SetX P w a xs) :=
  ⟨⟨Dt, l, ho, F, p⟩, ⟨_, ho⟩, fun h1 h2 ⟨D2, l2, a1, a2, a3⟩ k => ⟨D2, l2, k _ a1, a2, a3⟩⟩
section
variable {P : Program} {w : World} {A : Around} {E : Value → Shared → Prop} {s : Shared}
theorem tx_vals {Dt : SD} {l : List Str} (F : TxR P w Dt l) (hn : l.Nodup) : ∀ vs : List Value, vs.Perm (Dt.1.toList.map (·.2)) → ∃ ks, PyProof.Rows.StrsAre vs ks ∧ ks.Perm l := by
  have el : ∀ v ∈ Dt.1.toList.map (·.2), ∃ k t, v = Value.str k t := fun v hv => by
    obtain ⟨e, he, rfl⟩ := List.mem_map.mp hv
    obtain ⟨⟨k, hk, _⟩, _⟩ := F.ok.el e he
    obtain ⟨t, ht⟩ := Value.isStrOf_shape hk
    exact ⟨k, t, ht⟩
  intro vs hp
  have all : ∀ v ∈ vs, ∃ k t, v = Value.str k t := fun v hv => el v (hp.mem_iff.mp hv)
  have mk : ∀ vs : List Value, (∀ v ∈ vs, ∃ k t, v = Value.str k t) → ∃ ks, PyProof.Rows.StrsAre vs ks ∧ ∀ k, k ∈ ks ↔ ∃ t, Value.str k t ∈ vs := by
    intro vs
    induction vs with
    | nil => intro _; exact ⟨[], .nil, fun k => by simp⟩
    | cons v vs ih =>
      intro h
      obtain ⟨k, t, rfl⟩ := h v List.mem_cons_self
      obtain ⟨ks, h1, h2⟩ := ih fun u hu => h u (List.mem_cons_of_mem _ hu)
      refine ⟨k :: ks, .cons k t h1, fun j => ?_⟩
      rw [List.mem_cons, h2]
      constructor
      · rintro (e | ⟨u, hu⟩)
        · exact ⟨t, by rw [e]; exact List.mem_cons_self⟩
        · exact ⟨u, List.mem_cons_of_mem _ hu⟩
      · rintro ⟨u, hu⟩
        rcases List.mem_cons.mp hu with e | e
        · cases e; exact .inl rfl
        · exact .inr ⟨u, e⟩
  obtain ⟨ks, h1, h2⟩ := mk vs all
  refine ⟨ks, h1, ?_⟩
  have hmem : ∀ k, k ∈ ks ↔ k ∈ l := fun k => by
    rw [h2, F.ok.mem]
    constructor
    · rintro ⟨t, ht⟩
      obtain ⟨e, he, q⟩ := List.mem_map.mp (hp.mem_iff.mp ht)
      exact ⟨e, he, by rw [q]; exact PySem.Froz.is_str k t⟩
    · rintro ⟨e, he, q⟩
      obtain ⟨t, ht⟩ := Value.isStrOf_shape q
      exact ⟨t, hp.mem_iff.mpr (List.mem_map.mpr ⟨e, he, ht⟩)⟩
  have hlen : ks.length = l.length := by
    have a1 := StrsAre.len_eq h1
    have a2 : vs.length = Dt.1.toList.length := by rw [hp.length_eq, List.length_map]
    have a3 := F.ok.sz
    have a4 : Dt.1.toList.length = Dt.1.size := Array.length_toList
    omega
  exact perm_of l ks hn (fun k hk => (hmem k).mpr hk) hlen
end
end Z
set_option Elab.async false
set_option linter.all false
set_option maxRecDepth 100000
set_option maxHeartbeats 1000000
namespace Z
open PySem PySem.Spec PyProof.Rows L2
theorem RepK.fsts {F : Hp} : ∀ {us : List (Key × V)} {ds : List (Key × D)}, RepK F us ds → us.map (·.1) = ds.map (·.1)
  | _, _, .nil => rfl
  | _, _, .cons _ t => by rw [List.map_cons, List.map_cons, RepK.fsts t]
section
variable {X : Cx} {a b e o : Expr} {σ : L2.St} {F W W1 W2 : Hp} {pos p p2 apos cpos tpos : Pos}
def rSetTx (K : PySem.W.Frag) (P : Program) (w : World) : List V → Hp → VK → Prop := fun xs H Q => ∃ (l : Addr) (zs : List Str), xs = [.ref l] ∧ SqT K H l (zs.map V.str) ∧ zs.length < 64 ∧ zs.Nodup ∧ ∀ p, H p = none → Q (.ref p) (upd H p (SetX P w p zs))
theorem cr_setTx (hc : X.calm = true) : CallR X (.type "set") (rSetTx X.K X.prog X.w) := by
  intro pins s σ H xs us Q I r h
  obtain ⟨l, zs, rfl, hl, hb, hd, q⟩ := h
  rw [Vals.ref1 r]
  obtain ⟨its, rv, pl, hz2⟩ := I.tuple hl
  refine call_setTx zs (I.ok.hd hc) pl (by simpa using rv.strs) hd (by unfold scanBound; omega) fun h' tk Dt l' hS F hp hk => ?_
  exact ⟨.ref _, _, I.laid (t' := tk) hk (Nat.le_refl _) (setX_new hS F hp), rfl, q _ (I.hok.fresh (Nat.le_refl _))⟩
def rSortX (P : Program) (w : World) : List V → Hp → VK → Prop := fun xs H Q => ∃ (a : Addr) (zs : List Str), xs = [.ref a] ∧ H a = some (SetX P w a zs) ∧ zs.length < 64 ∧ zs.Nodup ∧ ∀ p, H p = none → Q (.ref p) (upd H p (.lst ((sortS zs).map V.str)))
theorem cr_sortX (hc : X.calm = true) : CallR X (.builtin "sorted") (rSortX X.prog X.w) := by
  intro pins s σ H xs us Q I r h
  obtain ⟨a, zs, rfl, ha, h64, nd, q⟩ := h
  obtain ⟨Dt, l, ho, F, hp⟩ := (I.hok a _ ha).1
  rw [Vals.ref1 r]
  refine Calls.call_function_entry kind_sorted plain_sorted entry_sorted (args_sorted1 _) ?_
  unfold Builtin.«sorted»
  refine wpAny_bind (m := checkCount "sorted" 1 1 _) (wpAny_pure ?_)
  have hsz : Dt.1.size = zs.length := F.ok.sz.trans hp.length_eq
  refine wpAny_bind (collect_set (A := X.A.in1) (I.ok.hd hc) ⟨_, ho, rfl, rfl⟩ F.ok.fit (by rw [hsz]; unfold scanBound; omega) F.ris F.led fun s1 vs k1 hz g1 o1 pm => ?_)
  obtain ⟨hp1, gn1, dr1, tk1, os1⟩ := s1
  obtain rfl : gn1 = s.gens := g1
  obtain rfl : os1 = s.os := o1
  replace k1 : ∀ b o, s.heap.get? b = some o → hp1.get? b = some o := k1
  replace hz : s.heap.objs.size ≤ hp1.objs.size := hz
  obtain ⟨ks, hS, pk⟩ := tx_vals F (hp.nodup_iff.mpr nd) vs pm
  have pz := pk.trans hp
  have hv : vs.length < 64 := by rw [StrsAre.len_eq hS, pz.length_eq]; exact h64
  refine wpAny_bind (wpAny_newList ?_ (by rw [sizeLine_eq]; omega))
  have hoL : (hp1.push (seqObj "list" vs.toArray 0)).get? hp1.objs.size = some (seqObj "list" vs.toArray 0) := Heap.get?_push_size _ rfl
  refine wpAny_bind (wpAny_holding (wpAny_call_entry slot_list_sort ⟨_, hoL, rfl⟩ entry_list_sort (list_sort_treeK strKind_oneLt (s := ⟨hp1.push (seqObj "list" vs.toArray 0), s.gens, dr1, tk1, s.os⟩) hoL hS.keysOf (fun u1 u2 rs e2 => keyKind_strs (by rw [← e2]; exact hS)) hv fun st2 q1 q2 => ⟨_, rfl, ?_⟩) (args_list_sort _)))
  obtain ⟨ys, y1, y2, y3⟩ := sorted_out_str hS q1 q2
  obtain rfl := sortS_of (y2.trans pz) y3 nd
  obtain ⟨c, hc2⟩ := sortedHeap_at (vs := vs) (out := (arrOf st2).map (·.2)) hoL
  have keep : ∀ d u, s.heap.get? d = some u → (sortedHeap (hp1.push (seqObj "list" vs.toArray 0)) hp1.objs.size vs ((arrOf st2).map (·.2))).get? d = some u := fun d u q => by
    have q' := k1 d u q
    have ne : d < hp1.objs.size := Heap.lt_size q'
    rw [sortedHeap_old (Nat.ne_of_lt ne) (by rw [size_push']; exact Nat.lt_succ_of_lt ne)]
    exact Heap.get?_push_of_some _ q'
  have hn : H hp1.objs.size = none := I.hok.fresh hz
  have hlen : ((sortS zs).map V.str).length ≤ sizeLine := by rw [List.length_map, sizeLine_eq]; have := sortS_len zs; omega
  have J : Inv X pins σ (upd H hp1.objs.size (.lst ((sortS zs).map V.str))) ⟨sortedHeap (hp1.push (seqObj "list" vs.toArray 0)) hp1.objs.size vs ((arrOf st2).map (·.2)), s.gens, dr1, tk1, s.os⟩ :=
    I.call (ch := []) (Un.laid keep hz hn) (I.hok.laid keep hz ⟨hlen, ((arrOf st2).map (·.2)).toList, c, vals_of_strs y1, by rw [Array.toArray_toList]; exact hc2⟩) I.bare (fun _ z => nomatch z)
  exact wpAny_pure ⟨_, rfl, .ref hp1.objs.size, _, J, rfl, q _ hn⟩
/-- sorted(set(a tuple of different texts)) -/
theorem ev_sortsetT {zs : List Str} {q' : Pos} (hm : X.mg "sorted" = none) (hm2 : X.mg "set" = none) (h : EvS X a σ F W (eR true D.str zs) W1) (hz : zs.length < 64) (nd : zs.Nodup) (hg : Gl X "sorted" := by rfl) (hg2 : Gl X "set" := by rfl) (hc : X.calm = true := by rfl)
    (na : starEach [a] X.env = (false, eval a X.env) :: starEach [] X.env := by rfl) (na2 : starEach [.Call (.Name "set" p2) [a] [] q'] X.env = (false, eval (.Call (.Name "set" p2) [a] [] q') X.env) :: starEach [] X.env := by rfl) :
    EvS X (.Call (.Name "sorted" p) [.Call (.Name "set" p2) [a] [] q'] [] pos) σ F W (eR false D.str (sortS zs)) W1 := fun H w Q q =>
  tm_of (pe_callB (cr_sortX hc) hg hm (by decide +kernel) (pa_cons (pe_callTy (cr_setTx hc) hg2 hm2 (by decide +kernel) (pa_cons pe_tm pa_nil na) (by decide) (by decide) na rfl) pa_nil na2) (by decide) (by decide) na2 rfl)
    (h H w _ fun v F1 H1 g r => by
    obtain ⟨l, us, rfl, h1, s1, z1⟩ := r.tup_inv
    rw [s1.strs] at h1
    refine ⟨l, zs, rfl, SqT.of (g.st.tup h1), hz, nd, fun p1 hp => ?_⟩
    have g1 := g.trans (Go.new (o := SetX X.prog X.w p1 zs) g.st hp)
    refine ⟨p1, zs, rfl, upd_same, hz, nd, fun p3 hp3 => ?_⟩
    exact q _ _ _ (g1.trans (Go.new g1.st hp3)) (.sq (t := false) upd_same (Reps.of_strs _) (by rw [List.length_map]; have := sortS_len zs; omega)))
/-- sorted of a list of different texts -/
theorem cl_sortedS {zs : List Str} (hz : zs.length < 64) (nd : zs.Nodup) : CalR X (.builtin "sorted") F W [eR false D.str zs] (eR false D.str (sortS zs)) := ⟨_, cr_sortedS, fun vs F1 H1 _ r w Q q => by
  cases r with
  | cons r t =>
    cases t
    obtain ⟨l, us, rfl, h1, s1, z1⟩ := r.lst_inv
    rw [s1.strs] at h1
    refine ⟨l, zs, rfl, SqL.of (w.lst h1), hz, fun ys p hp hs hn => ?_⟩
    obtain rfl := sortS_of hp hs nd
    exact q _ _ _ (Go.new w hn) (.sq (t := false) upd_same (Reps.of_strs _) (by rw [List.length_map]; have := sortS_len zs; omega))⟩
/-- sorted of a dict whose keys are texts -/
theorem cl_sortedD {α : Type} {g : α → D} {t : List (Str × α)} (hz : t.length < 64) (nd : (t.map (·.1)).Nodup) (hc : X.calm = true := by rfl) : CalR X (.builtin "sorted") F W [eT Sum.inr g t] (eR false D.str (sortS (t.map (·.1)))) := ⟨_, call_sortedD hc, fun vs F1 H1 _ r w Q q => by
  cases r with
  | cons r rs =>
    cases rs
    obtain ⟨l, us, rfl, h1, s1, z1⟩ := r.dk_inv
    refine ⟨l, us, t.map (·.1), rfl, w.rdK h1, ?_, by rw [List.length_map]; exact hz, fun ys p hp hs hn => ?_⟩
    · rw [RepK.fsts s1]; unfold eTm; rw [List.map_map, List.map_map]; rfl
    · obtain rfl := sortS_of hp hs nd
      exact q _ _ _ (Go.new w hn) (.sq (t := false) upd_same (Reps.of_strs _) (by rw [List.length_map]; have := sortS_len (t.map (·.1)); rw [List.length_map] at this; omega))⟩
end
end Z
set_option Elab.async false
set_option linter.all false
set_option maxRecDepth 100000
set_option maxHeartbeats 2000000
namespace Z
open PySem PySem.Spec PyProof.Rows L2
section
variable {X : Cx} {a b e o tg : Expr} {σ : L2.St} {F W W1 W2 : Hp} {pos p p2 apos cpos tpos : Pos} {d : D} {k : Nat}
variable {κ α : Type} [DecidableEq κ] {kf : κ → Key} {kd : κ → D} {g : α → D} {t t1 t2 : List (κ × α)}
/-- an expression that walks the dict v: with it locked -/
theorem ev_lkT {v : V} (r : Rep F v (eT kf g t)) (h : ∀ F' l od vs, v = .ref l → Lk F F' → F' l = some (.frz od (.dK vs)) → RepK F' vs (eTm kf g t) → EvS X e σ F' W d W) : EvS X e σ F W d W := by
  obtain ⟨l, vs, rfl, h1, rk, z⟩ := r.dk_inv
  rcases h1 with h1 | ⟨od, h1⟩
  · exact ev_lock h1 fun od => h _ l od vs rfl (lk_lock h1) upd_same (rk.lk (lk_lock h1))
  · exact h F l od vs rfl (fun a o' q => .inl q) h1 rk
theorem locked_at {l : Addr} {od : Obj} {vs : List (Key × V)} {F1 F2 W2 H2 : Hp} (hF : F l = some (.frz od (.dK vs))) (e1 : Same F F1) (e2 : Same F1 F2) (w2 : Wd F2 W2 H2) : H2 l = some (.frz od (.dK vs)) := by
  rcases w2.f l _ (e2 _ _ (e1 _ _ hF)) with z | ⟨z, _⟩
  · exact z
  · cases z
/-- for k in d -/
theorem ei_keys {l : Addr} {od : Obj} {vs : List (Key × V)} (ke : KEn kf kd) (he : EvS X e σ F W (.ow l) W) (hF : F l = some (.frz od (.dK vs))) (hk : RepK F vs (eTm kf g t)) : EvI X tg e σ F W ((t.map (·.1)).map kd) W := fun H w R q =>
  tmI_of (pi_keys pe_tm) (he H w _ fun v F1 H1 g1 r => by
    cases r
    have hlen : ((t.map (·.1)).map kd).length = vs.length := by rw [List.length_map, List.length_map, hk.len, eTm_len]
    refine ⟨l, od, rfl, .inl ⟨vs, locked_at hF g1.ex (Same.refl F1) g1.st, q _ _ _ F1 H1 g1 (by rw [hlen]; exact walk_keys) (fun F2 W2 H2 e2 w2 => locked_at hF g1.ex e2 w2) fun j F2 W2 H2 H3 x d e2 w2 y hd => ?_⟩⟩
    rw [List.getElem?_map, List.getElem?_map, Option.map_map, Option.map_eq_some_iff] at hd
    obtain ⟨pr, hp, rfl⟩ := hd
    obtain ⟨u, hu, ru⟩ := repK_at ke hk j pr hp
    obtain ⟨rfl, k1, v1, hk1, rfl⟩ := y
    rw [hu] at hk1
    cases hk1
    exact ⟨F2, Go.refl w2, ke.of F2 pr.1⟩)
/-- for v in d.values() -/
theorem ei_vals {l : Addr} {od : Obj} {vs : List (Key × V)} (ke : KEn kf kd) (he : EvS X e σ F W (.ow l) W) (hF : F l = some (.frz od (.dK vs))) (hk : RepK F vs (eTm kf g t))
    (hbase : attributeBase e "values" X.env (eval e X.env) = eval e X.env := by rfl) (hline : (apos.endLine == cpos.line) = true := by rfl) : EvI X tg (.Call (.Attribute e "values" apos) [] [] cpos) σ F W ((t.map (·.2)).map g) W := fun H w R q =>
  tmI_of (pi_values pe_tm hbase hline) (he H w _ fun v F1 H1 g1 r => by
    cases r
    have hlen : ((t.map (·.2)).map g).length = vs.length := by rw [List.length_map, List.length_map, hk.len, eTm_len]
    refine ⟨l, od, vs, rfl, locked_at hF g1.ex (Same.refl F1) g1.st, q _ _ _ F1 H1 g1 (by rw [hlen]; exact walk_values) (fun F2 W2 H2 e2 w2 => locked_at hF g1.ex e2 w2) fun j F2 W2 H2 H3 x d e2 w2 y hd => ?_⟩
    rw [List.getElem?_map, List.getElem?_map, Option.map_map, Option.map_eq_some_iff] at hd
    obtain ⟨pr, hp, rfl⟩ := hd
    obtain ⟨u, hu, ru⟩ := repK_at ke hk j pr hp
    obtain ⟨rfl, k1, hk1⟩ := y
    rw [hu] at hk1
    cases hk1
    exact ⟨F2, Go.refl w2, (ru.mono g1.ex).mono e2⟩)
/-- the heap grew, nothing else -/
theorem Go.grow {H H' : Hp} (w : Wd F W H) (k : ∀ b o, H b = some o → H' b = some o) : Go F W H (fun b => match H b with | none => H' b | some _ => F b) W H' := by
  have up : ∀ b o, F b = some o → ∃ u, H b = some u := fun b o h => w.f.some h
  refine ⟨⟨fun b o h => ?_, fun b o h => k _ _ (w.w b o h), fun b o h => ?_⟩, fun b o h => ?_, fun b o h _ => k _ _ h, fun b o h q => ?_, fun b o h => .inl ⟨o, h⟩⟩
  · rcases opt_cases (H b) with z | ⟨u, z⟩
    · rw [z] at h; exact .inl h
    · rw [z] at h
      rcases w.f b o h with y | ⟨y, od, x⟩
      · exact .inl (k _ _ y)
      · exact .inr ⟨y, od, k _ _ x⟩
  · rcases opt_cases (H b) with z | ⟨u, z⟩
    · rcases opt_cases (W b) with y | ⟨y, hy⟩
      · exact y
      · rw [w.w b y hy] at z; cases z
    · rw [z] at h; exact w.d b o h
  · obtain ⟨u, hu⟩ := up b o h
    show (match H b with | none => H' b | some _ => F b) = some o
    rw [hu]; exact h
  · rcases opt_cases (H b) with z | ⟨u, z⟩
    · exact .inl z
    · rw [z] at q; rw [h] at q; cases q
def tItemsL (te : TE) : TE := fun σ H Q => te σ H fun x H1 => ∃ (d : Addr) (kvs : List (Key × V)), x = .ref d ∧ Rd H1 d (.dK kvs) ∧
  ∀ (H2 : Hp) (p : Addr) (ts : List Addr), (∀ b o, H1 b = some o → H2 b = some o) → H1 p = none → (∀ t ∈ ts, H1 t = none) → H2 p = some (.lst (ts.map V.ref)) → Paired (fun (t : Addr) (q : Key × V) => H2 t = some (.tup [kV q.1, q.2])) ts kvs → Q (.ref p) H2
theorem pe_itemsL {te : TE} (calm : X.calm = true) (pe : PE X e te) (gl : Gl X "list") (mg : X.mg "list" = none) (bt : bootBuiltins "list" = some (.type "list")) (ab : attributeBase e "items" X.env (eval e X.env) = eval e X.env) (ln : (apos.endLine == cpos.line) = true)
    (se : starEach [.Call (.Attribute e "items" apos) [] [] cpos] X.env = (false, eval (.Call (.Attribute e "items" apos) [] [] cpos) X.env) :: starEach [] X.env) :
    PE X (.Call (.Name "list" p) [.Call (.Attribute e "items" apos) [] [] cpos] [] pos) (tItemsL te) := by
  constructor
  intro pins s σ H Q I hq
  refine wpAny_Call_Name_kw (ld_blt I gl mg bt (PyProof.Rows.callWith_type1 ?_ se rfl))
  rw [se]
  show wpAny _ _ (spliced ((false, eval (.Call (.Attribute e "items" apos) [] [] cpos) X.env) :: backTo pos (starEach [] X.env))) _ _ s
  refine Calls.spliced_cons (wpAny_Call_method (T := "dict") (id := "dict.items") ab rfl ln F.plainAttrs_dict F.slot_dict_items F.type_dict_items (thn (pe.run pins s σ H _ I hq) fun u s2 z => ?_))
  obtain ⟨x, H1, J, rx, l, kvs, rfl, hd, kk⟩ := z
  obtain rfl : u = Value.ref l := rx
  obtain ⟨small, nosys, es, rel, dict⟩ := dk_rd J.hok hd
  obtain ⟨ep, ats⟩ := dict.dictAt
  have len2 : kvs.length = es.length := Paired.length rel
  have J2 : Inv X pins σ H1 { s2 with heap := s2.heap.push { cls := .type "dict_items", data := .fields #[.ref l] } } := J.kept (t' := s2.toks) fun b ob q => Heap.get?_push_of_some _ q
  refine ⟨dict.typeIs, dict.mapOf.noDict, ?_⟩
  show wpAny _ _ (callWith cpos (.builtin "dict.items") [.ref l] [] []) _ X.xe s2
  refine method_meetsIn F.slot_dict_items F.entry_dict_items rfl (PySem.evalArgs_none ⟨rfl, dict.typeIs, F.args_dict_items_1 _, _, meets_dict_items (mixKind X.prog X.w) l nosys, ⟨es, dict⟩, Calls.spliced_nil (PySem.W.kdx_call (knd := mixKind X.prog X.w) (kvs := es) (ep := ep) (J.ok.hd calm) ⟨_, Heap.get?_push_size _ rfl, rfl, rfl⟩ (ats.push _) (by omega) fun h2 tk acc c ts kp hL hl2 hG hac => ?_)⟩)
  obtain ⟨H2, m1, m2, m3, m4, m5, m6, J3⟩ := LiI.items_laid (tk := tk) J2 small rel kp hL hl2 hG hac
  exact ⟨.ref _, H2, J3, rfl, kk H2 _ ts m1 m2 m3 m5 m6⟩
theorem paired_rep {F1 : Hp} (ke : KEn kf kd) : ∀ {ts : List Addr} {vs : List (Key × V)} {t : List (κ × α)}, Paired (fun (t : Addr) (q : Key × V) => F1 t = some (.tup [kV q.1, q.2])) ts vs → RepK F1 vs (eTm kf g t) → Reps F1 (ts.map V.ref) (t.map (eP kd g))
  | [], [], [], _, _ => .nil
  | x :: ts, (kq, vq) :: vs, p :: t, .cons h1 h2, r => by
    have r : RepK F1 ((kq, vq) :: vs) ((kf p.1, g p.2) :: eTm kf g t) := r
    cases r with
    | cons r1 r2 => exact .cons (.sq (t := true) h1 (.cons (ke.of F1 p.1) (.cons r1 .nil)) (by simp)) (paired_rep ke h2 r2)
theorem paired_imp {α β : Type} {A B : α → β → Prop} : ∀ {xs : List α} {ys : List β}, Paired A xs ys → (∀ x ∈ xs, ∀ y, A x y → B x y) → Paired B xs ys
  | _, _, .nil, _ => .nil
  | _, _, .cons h r, k => .cons (k _ List.mem_cons_self _ h) (paired_imp r fun x hx y q => k x (List.mem_cons_of_mem _ hx) y q)
/-- list(d.items()) -/
theorem ev_itemsL (ke : KEn kf kd) (hm : X.mg "list" = none) (h : EvS X e σ F W (eT kf g t) W1) (hg : Gl X "list" := by rfl) (hbase : attributeBase e "items" X.env (eval e X.env) = eval e X.env := by rfl) (hline : (apos.endLine == cpos.line) = true := by rfl) (hc : X.calm = true := by rfl)
    (hs : starEach [.Call (.Attribute e "items" apos) [] [] cpos] X.env = (false, eval (.Call (.Attribute e "items" apos) [] [] cpos) X.env) :: starEach [] X.env := by rfl) :
    EvS X (.Call (.Name "list" p) [.Call (.Attribute e "items" apos) [] [] cpos] [] pos) σ F W (eR false (eP kd g) t) W1 := fun H w Q q =>
  tm_of (pe_itemsL hc pe_tm hg hm (by decide +kernel) hbase hline hs) (h H w _ fun v F1 H1 g1 r => by
    obtain ⟨l, vs, rfl, h1, rk, z⟩ := r.dk_inv
    refine ⟨l, vs, rfl, g1.st.rdK h1, fun H2 p ts up hp hts hl pr => ?_⟩
    have g2 := Go.grow g1.st up
    have pr2 : Paired (fun (t : Addr) (q : Key × V) => (fun b => match H1 b with | none => H2 b | some _ => F1 b) t = some (.tup [kV q.1, q.2])) ts vs := paired_imp pr fun x hx y q => by
      show (match H1 x with | none => H2 x | some _ => F1 x) = _
      rw [hts x hx]; exact q
    refine q _ _ _ (g1.trans g2) (.sq (t := false) (vs := ts.map V.ref) ?_ (paired_rep ke pr2 (RepK.mono g2.ex rk)) (by rw [List.length_map]; rw [eTm_len] at z; exact z))
    show (match H1 p with | none => H2 p | some _ => F1 p) = _
    rw [hp]; exact hl)
end
end Z
set_option Elab.async false
set_option linter.all false
set_option maxRecDepth 100000
set_option maxHeartbeats 2000000
namespace Z
open PySem PySem.Spec PyProof.Rows L2
def EqF {α : Type} [DecidableEq α] (g : α → D) : Prop := ∀ (F : Hp) (v v' : V) (x y : α), Rep F v (g x) → Rep F v' (g y) → ∀ (u u' : Value), RelV v u → RelV v' u' → ∀ (A : Around) (s : Shared), SeqAt.EqAt A s u u' (decide (x = y))
theorem eqF_int : EqF D.int := fun F v v' x y r r' u u' h h' A s => by
  cases r; cases r'
  obtain ⟨t, rfl⟩ := h
  obtain ⟨t', rfl⟩ := h'
  rw [show decide (x = y) = (x == y) from by rw [Bool.eq_iff_iff]; simp]
  exact SeqAt.EqAt.int_int x t y t'
theorem eqF_str : EqF D.str := fun F v v' x y r r' u u' h h' A s => by
  cases r; cases r'
  obtain ⟨t, rfl⟩ := h
  obtain ⟨t', rfl⟩ := h'
  rw [show decide (x = y) = (x == y) from by rw [Bool.eq_iff_iff]; simp]
  exact SeqAt.EqAt.str_str x t y t'
section
variable {X : Cx} {a b e o tg : Expr} {σ : L2.St} {F W W1 W2 : Hp} {pos p p2 apos cpos tpos : Pos} {d : D} {n : Nat}
variable {κ α : Type} [DecidableEq κ] [DecidableEq α] {kf : κ → Key} {kd : κ → D} {g : α → D} {t t1 t2 : List (κ × α)}
def tEq (t1 t2 : List (κ × α)) : Bool := decide (t1.length = t2.length) && t1.all fun p => decide (tGet t2 p.1 = some p.2)
theorem hits_tab {A : Around} {s : Shared} (ke : KEn kf kd) (eq : EqF g) {ls : List (Key × V)} {vb : List (Key × Value)} (rl : RepK F ls (eTm kf g t2)) (rb : KV ls vb) : ∀ {ks : List (Key × V)} {va : List (Key × Value)} {t1 : List (κ × α)}, RepK F ks (eTm kf g t1) → KV ks va →
    PySem.W.KeqHits A s vb va (t1.all fun p => decide (tGet t2 p.1 = some p.2))
  | [], _, [], _, .nil => .nil
  | (kq, vq) :: ks, (k, v) :: va, q :: t1, r, .cons h1 h2 => by
    have r : RepK F ((kq, vq) :: ks) ((kf q.1, g q.2) :: eTm kf g t1) := r
    cases r with
    | cons r1 r2 =>
    obtain ⟨hk, hv⟩ := h1
    have hk : kf q.1 = k := hk
    subst hk
    have val := rb.val (kf q.1)
    rw [valV_t] at val
    rw [List.all_cons]
    have ih := hits_tab (A := A) (s := s) ke eq rl rb r2 h2
    have tg := eTm_get (g := g) ke.inj t2 q.1
    rcases RepK.get (k := kf q.1) rl with ⟨n1, n2⟩ | ⟨v2, d2, s1, s2, r3⟩
    · rw [n1] at val
      rw [n2] at tg
      have e0 : tGet t2 q.1 = none := by cases e : tGet t2 q.1 with
        | none => rfl
        | some y => rw [e] at tg; cases tg
      rw [e0]
      have : valueAt vb (kf q.1) = none := by
        cases e : valueAt vb (kf q.1) with
        | none => rfl
        | some y => rw [e] at val; cases val
      simpa using PySem.W.KeqHits.miss this
    · rw [s1] at val
      rw [s2] at tg
      obtain ⟨y, e1, e2⟩ := Option.map_eq_some_iff.mp tg.symm
      obtain ⟨u2, hu, ru⟩ := val.some_of
      subst e2
      rw [e1]
      have := PySem.W.KeqHits.hit (k := kf q.1) hu (eq F vq v2 q.2 y r1 r3 v u2 hv ru A s) ih
      rw [show decide (some y = some q.2) = decide (q.2 = y) from by rw [Bool.eq_iff_iff]; simp [eq_comm]]
      exact this
def rTabEq (neg : Bool) : R2 := fun x y H Q => ∃ (a b : Addr) (ks ls : List (Key × V)) (r : Bool), x = .ref a ∧ y = .ref b ∧ Rd H a (.dK ks) ∧ Rd H b (.dK ls) ∧ (∀ (A : Around) (s : Shared) (va vb : List (Key × Value)), KV ks va → KV ls vb → PySem.W.KeqHits A s vb va r) ∧ Q (.bl (neg != (decide (ks.length = ls.length) && r))) H
theorem op_tabEq (hu : X.A.units < cLine) : OpR X (compareOp .Eq) (rTabEq false) := by
  intro pins s σ H x y v u Q I rx ry h
  obtain ⟨a, b, ks, ls, r, rfl, rfl, ea, eb, hits, q⟩ := h
  obtain rfl : v = Value.ref a := rx
  obtain rfl : u = Value.ref b := ry
  obtain ⟨_, ya, va, ra, da⟩ := dk_rd I.hok ea
  obtain ⟨_, yb, vb, rb, db⟩ := dk_rd I.hok eb
  refine PySem.W.keq_eq (knd := mixKind X.prog X.w) ya yb da db hu (fun _ => hits _ _ va vb ra rb) (fin_bl I q ?_)
  rw [← ra.length, ← rb.length, show (ks.length == ls.length) = decide (ks.length = ls.length) from by rw [Bool.eq_iff_iff]; simp]; simp
theorem op_tabNe (hu : X.A.units < cLine) : OpR X (compareOp .NotEq) (rTabEq true) := by
  intro pins s σ H x y v u Q I rx ry h
  obtain ⟨a, b, ks, ls, r, rfl, rfl, ea, eb, hits, q⟩ := h
  obtain rfl : v = Value.ref a := rx
  obtain rfl : u = Value.ref b := ry
  obtain ⟨_, ya, va, ra, da⟩ := dk_rd I.hok ea
  obtain ⟨_, yb, vb, rb, db⟩ := dk_rd I.hok eb
  refine PySem.W.keq_ne (knd := mixKind X.prog X.w) ya yb da db hu (fun _ => hits _ _ va vb ra rb) (fin_bl I q ?_)
  rw [← ra.length, ← rb.length, show (ks.length == ls.length) = decide (ks.length = ls.length) from by rw [Bool.eq_iff_iff]; simp]; simp
theorem cm_eqT (hr : Room n X.A) (ke : KEn kf kd) (eq : EqF g) : CmpR X .Eq F W (eT kf g t1) (eT kf g t2) (tEq t1 t2) := ⟨_, op_tabEq (by have := hr.un; omega), fun v1 v2 F1 H1 _ r1 r2 w Q q => by
  obtain ⟨a, ks, rfl, ha, ra, z1⟩ := r1.dk_inv
  obtain ⟨b, ls, rfl, hb, rb, z2⟩ := r2.dk_inv
  refine ⟨a, b, ks, ls, _, rfl, rfl, w.rdK ha, w.rdK hb, fun A s va vb h1 h2 => hits_tab ke eq rb h2 ra h1, q _ F1 H1 (Go.refl w) ?_⟩
  rw [ra.len, rb.len, eTm_len, eTm_len, show (false != (decide (t1.length = t2.length) && t1.all fun p => decide (tGet t2 p.1 = some p.2))) = tEq t1 t2 from by unfold tEq; simp]
  exact .bl _⟩
theorem cm_neT (hr : Room n X.A) (ke : KEn kf kd) (eq : EqF g) : CmpR X .NotEq F W (eT kf g t1) (eT kf g t2) (!tEq t1 t2) := ⟨_, op_tabNe (by have := hr.un; omega), fun v1 v2 F1 H1 _ r1 r2 w Q q => by
  obtain ⟨a, ks, rfl, ha, ra, z1⟩ := r1.dk_inv
  obtain ⟨b, ls, rfl, hb, rb, z2⟩ := r2.dk_inv
  refine ⟨a, b, ks, ls, _, rfl, rfl, w.rdK ha, w.rdK hb, fun A s va vb h1 h2 => hits_tab ke eq rb h2 ra h1, q _ F1 H1 (Go.refl w) ?_⟩
  rw [ra.len, rb.len, eTm_len, eTm_len, show (true != (decide (t1.length = t2.length) && t1.all fun p => decide (tGet t2 p.1 = some p.2))) = !tEq t1 t2 from by unfold tEq; simp]
  exact .bl _⟩
theorem bl_join {s : Stmt} {rest : List Stmt} {A : AE} (J : L2.St → Hp → Hp → Prop) (h : (∀ σ F W, J σ F W → BlkS X rest σ F W A) → BlkS X (s :: rest) σ F W A) (k : ∀ σ F W, J σ F W → BlkS X rest σ F W A) : BlkS X (s :: rest) σ F W A := h k
theorem ev_newT : EvS X (.Dict [] [] pos) σ F W (eT kf g ([] : List (κ × α))) W := ev_ofM em_new (Nat.zero_le _)
theorem ix0_of {β : Type} {l : List β} (h : (!decide (l = [])) = true) : -(l.length : Int) ≤ 0 ∧ (0 : Int) < l.length := by
  have h2 : l ≠ [] := by simpa using h
  have := List.length_pos_iff.mpr h2
  omega
/-- dict(zip(a, b)) of two lists -/
def tDictZip (K : PySem.W.Frag) (ta : TA) : TE := fun σ H Q => ta σ H fun vs H1 => ∃ (l1 l2 : Addr) (ks : List Key) (us : List V), vs = [.ref l1, .ref l2] ∧ SqL K H1 l1 (ks.map kV) ∧ SqL K H1 l2 us ∧ ks.length = us.length ∧ ∀ p, H1 p = none → Q (.ref p) (upd H1 p (.dK (mergeK [] (ks.zip us))))
theorem kv_zip : ∀ {ks : List Key} {us : List V} {vs : List Value}, Vals us vs → KV (ks.zip us) (ks.zip vs)
  | [], _, _, _ => .nil
  | _ :: _, _, _, .nil => .nil
  | k :: ks, _, _, .cons h t => .cons ⟨rfl, h⟩ (kv_zip t)
theorem kV_at {P : Program} {w : World} : ∀ {ks : List Key} {vs : List Value}, Vals (ks.map kV) vs → ∀ (i : Nat) (v : Value), vs[i]? = some v → ∃ k, ks[i]? = some k ∧ (mixKind P w).is k v = true
  | [], vs, h, i, v, e => by cases (show Vals [] vs from h); simp at e
  | k :: ks, v :: vs, .cons h t, 0, _, e => by cases e; exact ⟨k, rfl, kV_is h⟩
  | k :: ks, v :: vs, .cons h t, i + 1, u, e => by
    obtain ⟨k2, e1, e2⟩ := kV_at (P := P) (w := w) t i u (by simpa using e)
    exact ⟨k2, by simpa using e1, e2⟩
theorem pe_dictZip {q' : Pos} {ta : TA} (calm : X.calm = true) (pa : PA X [a, b] ta) (gd : Gl X "dict") (md : X.mg "dict" = none) (gz : Gl X "zip") (mz : X.mg "zip" = none) (bt : bootBuiltins "dict" = some (.type "dict"))
    (s1 : starEach [a, b] X.env = (false, eval a X.env) :: starEach [b] X.env) (s2 : (backTo q' (starEach [b] X.env)).any (·.1) = false)
    (se : starEach [.Call (.Name "zip" p2) [a, b] [] q'] X.env = (false, eval (.Call (.Name "zip" p2) [a, b] [] q') X.env) :: starEach [] X.env) :
    PE X (.Call (.Name "dict" p) [.Call (.Name "zip" p2) [a, b] [] q'] [] pos) (tDictZip X.K ta) := by
  constructor
  intro pins s σ H Q I hq
  refine wpAny_Call_Name_kw (ld_blt I gd md bt (PyProof.Rows.callWith_type1 ?_ se rfl))
  rw [se]
  show wpAny _ _ (spliced ((false, eval (.Call (.Name "zip" p2) [a, b] [] q') X.env) :: backTo pos (starEach [] X.env))) _ _ s
  refine Calls.spliced_cons (wpAny_Call_Name_kw (ld_blt I gz mz PyProof.Rows.boot_zip (PyProof.Rows.callWith_type1 (thn (pa.run q' pins s σ H _ I hq) fun us s3 z => ?_) s1 s2)))
  obtain ⟨vs, H1, J, rr, l1, l2, ks, xs, rfl, q1, q2, hlen, kk⟩ := z
  cases rr with
  | cons r rr =>
  cases rr with
  | cons r' rr =>
  cases rr
  cases r
  cases r'
  obtain ⟨its, rv, pl1, z1⟩ := J.list q1
  obtain ⟨jts, rw2, pl2, z2⟩ := J.list q2
  have lt1 : l1 < s3.heap.objs.size := pl1.lt
  have lt2 : l2 < s3.heap.objs.size := pl2.lt
  have c1 : its.length = ks.length := by have := rv.length; rw [List.length_map] at this; exact this.symm
  have c2 : jts.length = xs.length := rw2.length.symm
  refine call_zip_2 pl1.isList pl2.isList fun h' hz hTI hTO i1 i2 hsz hk => Calls.spliced_nil ?_
  have P := PySem.PairArg.zip (prog := X.prog) (w := X.w) (s3.heap.objs.size + 4) (s3.heap.objs.size + 2) (s3.heap.objs.size + 3) s3.heap.objs.size (s3.heap.objs.size + 1) l1 l2 (PySem.W.ktu_apart s3.heap.objs.size l1 l2 lt1 lt2) its.toArray jts.toArray
  refine PySem.call_dict_pairs (s := { s3 with heap := h' }) (knd := mixKind X.prog X.w) (kvs := ks.zip jts) P (J.ok.hd calm) ⟨hz, hTI, ⟨_, _, hTO⟩, i1, i2, pl1.isList.at fun o e => hk _ o e, pl2.isList.at fun o e => hk _ o e⟩ ⟨by simp [c1, List.length_zip], fun i key v hr => ?_⟩ ?_ fun h2 tk hd keep => ?_
  · obtain ⟨e1, e2⟩ := hr
    obtain ⟨k, e3, e4⟩ := kV_at (P := X.prog) (w := X.w) rv i key (by simpa using e1)
    exact ⟨k, by rw [List.getElem?_zip_eq_some]; exact ⟨e3, by simpa using e2⟩, e4⟩
  · have := z1
    rw [List.length_map] at this
    simp only [List.size_toArray]
    omega
  · have hz5 : h'.objs.size = s3.heap.objs.size + 5 := hsz
    have big : s3.heap.objs.size ≤ h'.objs.size := by omega
    have nosys : (h'.objs.size == sysModules) = false := beq_eq_false_iff_ne.mpr (Nat.ne_of_gt (Nat.lt_of_lt_of_le J.big big))
    have up : ∀ b o, s3.heap.get? b = some o → h2.get? b = some o := fun b o e => keep b o (fun hm => by
      have lt := Heap.lt_size e
      simp only [List.mem_cons, List.not_mem_nil, or_false] at hm
      have new : ∀ k : Nat, b ≠ s3.heap.objs.size + k := fun k q => Nat.lt_irrefl _ (Nat.lt_of_le_of_lt (Nat.le_add_right _ k) (q ▸ lt))
      rcases hm with q | q | q | q
      · exact new 4 q
      · exact new 3 q
      · exact new 0 q
      · exact new 1 q) (hk b o e)
    have len3 : (mergeK [] (ks.zip xs)).length ≤ sizeLine := by
      refine Nat.le_trans (length_mergeK (ks.zip xs) []) ?_
      rw [List.length_map] at z1
      rw [List.length_nil, List.length_zip]
      omega
    exact ⟨.ref h'.objs.size, upd H1 h'.objs.size (.dK (mergeK [] (ks.zip xs))), J.laid (t' := tk) up big (show ObjOk X.prog X.w _ _ _ (.dK (mergeK [] (ks.zip xs))) from ⟨len3, nosys, merged [] (ks.zip jts), KV.merge (kv_zip rw2) .nil, hd⟩), rfl, kk _ (J.hok.fresh big)⟩
theorem eTm_zip (ke : KEn kf kd) : ∀ {ks : List κ} {us : List V} {ys : List α}, Reps F us (ys.map g) → RepK F ((ks.map kf).zip us) (eTm kf g (ks.zip ys))
  | [], _, _, _ => .nil
  | _ :: _, [], [], _ => .nil
  | k :: ks, _ :: us, y :: ys, .cons h t => .cons h (eTm_zip ke t)
theorem keys_of (ke : KEn kf kd) : ∀ {us : List V} {ks : List κ}, Reps F us (ks.map kd) → us = (ks.map kf).map kV
  | [], [], _ => rfl
  | u :: us, k :: ks, .cons h t => by rw [ke.rep F u k h, keys_of ke t]; rfl
/-- dict(zip(ks, ys)) -/
theorem ev_dictZip {q' : Pos} {ks : List κ} {ys : List α} (ke : KEn kf kd) (hd : X.mg "dict" = none) (hz : X.mg "zip" = none) (ha : EvS X a σ F W (eR false kd ks) W1) (hb : EvS X b σ F W1 (eR false g ys) W2) (hl : ks.length = ys.length) (hk : ks.length ≤ 100000) (gd : Gl X "dict" := by rfl) (gz : Gl X "zip" := by rfl) (hc : X.calm = true := by rfl)
    (h1 : starEach [a, b] X.env = (false, eval a X.env) :: starEach [b] X.env := by rfl) (h2 : starEach [b] X.env = (false, eval b X.env) :: starEach [] X.env := by rfl) (s2 : (backTo q' (starEach [b] X.env)).any (·.1) = false := by rfl)
    (se : starEach [.Call (.Name "zip" p2) [a, b] [] q'] X.env = (false, eval (.Call (.Name "zip" p2) [a, b] [] q') X.env) :: starEach [] X.env := by rfl) :
    EvS X (.Call (.Name "dict" p) [.Call (.Name "zip" p2) [a, b] [] q'] [] pos) σ F W (eT kf g (tOf (ks.zip ys))) W2 := fun H w Q q =>
  tm_of (pe_dictZip hc pa_tm gd hd gz hz (by decide +kernel) h1 s2 se) ((ea_cons ha (ea_cons hb ea_nil h2) h1) H w _ fun vs F1 H1 g1 r => by
    cases r with
    | cons r rr =>
    cases rr with
    | cons r2 rr =>
    cases rr
    obtain ⟨l1, us, rfl, f1, e1, z1⟩ := r.lst_inv
    obtain ⟨l2, xs, rfl, f2, e2, z2⟩ := r2.lst_inv
    have ek := keys_of ke e1
    subst ek
    refine ⟨l1, l2, ks.map kf, xs, rfl, SqL.of (g1.st.lst f1), SqL.of (g1.st.lst f2), by rw [List.length_map, hl, e2.length, List.length_map], fun p hp => q _ _ _ (g1.trans (Go.new g1.st hp)) (.dk (.inl upd_same) ?_ ?_)⟩
    · rw [mergeK_t]
      have := repK_of (F := F1) (eTm_zip (kf := kf) ke e2 (ks := ks)) .nil
      rw [show ([] : List (Key × D)) = eTm kf g [] from rfl, eTm_of ke] at this
      exact RepK.mono (Go.new g1.st hp).ex this
    · rw [eTm_len]
      have := tOf_len (ps := ks.zip ys)
      rw [List.length_zip] at this
      omega)
end
end Z
set_option Elab.async false
set_option linter.all false
set_option maxRecDepth 100000
set_option maxHeartbeats 1000000
namespace B
open PySem PySem.Spec PyProof.Rows L2 Z
def clsS (s : Stmt) (i : Nat) : Stmt := match s with
  | .ClassDef _ _ _ b _ _ _ _ _ _ _ => b.getD i (.Pass ⟨0, 0, 0, 0⟩)
  | _ => .Pass ⟨0, 0, 0, 0⟩
def topS (i : Nat) : Stmt := PySem.Challenge.pw_storepages_k52_across_prefixes.main.body.getD i (.Pass ⟨0, 0, 0, 0⟩)
structure Txt (K : PySem.W.Frag) (mg : Str → Option Value) : Prop where
  isinstance : mg "isinstance" = none
  int : mg "int" = none
  bool : mg "bool" = none
  str : mg "str" = none
  len : mg "len" = none
  all : mg "all" = none
  list : mg "list" = none
  tuple : mg "tuple" = none
  dict : mg "dict" = none
  sorted : mg "sorted" = none
  set : mg "set" = none
  enumerate : mg "enumerate" = none
  zip : mg "zip" = none
  range : mg "range" = none
  max : mg "max" = none
  min : mg "min" = none
  SMALL : ∃ t, mg "SMALL" = some (.str "abcdefghijklmnopqrstuvwxyz" t)
  FIGURES : ∃ t, mg "FIGURES" = some (.str "0123456789" t)
  MOST_NAME : ∃ t, mg "MOST_NAME" = some (.int 8 t)
theorem oGet {α : Type} {x : Option α} {d : α} (h : x.isSome = true) : x = some (x.getD d) := by
  cases x with
  | none => simp at h
  | some y => rfl
theorem eO_get {α : Type} {f : α → D} {x : Option α} {d : α} (h : x.isSome = true) : eO f x = f (x.getD d) := by
  cases x with
  | none => simp at h
  | some y => rfl
def Nm8 : List Str := ["a", "b", "c", "d", "q", "p", "zz", "m1"]
/-- a page's row: names, rising -/
def Pg (p : List Str) : Prop := (∀ z ∈ p, z ∈ Nm8) ∧ AscS p ∧ p.length ≤ 8
theorem asc_nd {p : List Str} (h : AscS p) : p.Nodup := h.imp fun {a b} q e => by subst e; rw [ltS_irr] at q; cases q
theorem sortS_id {p : List Str} (h : AscS p) : sortS p = p := ascS_eq (asc_sortS p) h fun k => mem_sortS
/-- right arguments -/
structure Ck (commits : List (List Str)) (answered : Int) (contents : List (Str × Int)) : Prop where
  pg : ∀ p ∈ commits, Pg p
  len : commits.length ≤ 50
  lo : 0 ≤ answered
  hi : answered ≤ commits.length
  nm : ∀ kv ∈ contents, kv.1 ∈ Nm8
  nn : ∀ kv ∈ contents, 0 ≤ kv.2 ∧ kv.2 ≤ commits.length
  nd : (contents.map (·.1)).Nodup
  sz : contents.length ≤ 8
section
variable {P : Program} {w : World} {K : PySem.W.Frag} {mg : Str → Option Value} {base : Heap}

abbrev s6 : Stmt := topS 6
theorem sc6 : FnScope ["thing"] ["thing"] (defScope s6) := ⟨rfl, rfl, rfl, by decide +kernel, rfl, by decide +kernel, by decide +kernel⟩
def r_is_integer : List D → D → Prop := fun ds d => ∃ i : Int, ds = [.int i] ∧ d = .bl true
theorem d_is_integer (T : Txt K mg) {f : Addr} {fd : FuncData} (Fu : Fun K "is_integer" "is_integer" s6 f fd) : FnOk P w K mg base CX0 1 f fd ["thing"] (spG (relP r_is_integer)) := by
  refine fn_ok Fu sc6 (fun ds F W d W' h => by obtain ⟨⟨i, rfl, _⟩, _⟩ := h; rfl) (fun cdv A outer s H E hr ds W d W' vs F h hv => ?_)
  obtain ⟨⟨i, rfl, rfl⟩, rfl⟩ := h
  cases hv with | cons h_thing hv => ?_
  cases hv
  exact bl_ret (ev_and (ev_isi (U := "int") (q := true) T.isinstance T.int (ev_var (i := 0) rfl h_thing) rfl (by decide +kernel) (by decide +kernel)) (fun h1 => ev_bop1 (ev_not (ev_isi (U := "bool") (q := false) T.isinstance T.bool (ev_var (i := 0) rfl h_thing) rfl (by decide +kernel) (by decide +kernel))))) ⟨rfl, rfl⟩
abbrev s7 : Stmt := topS 7
theorem sc7 : FnScope ["thing"] ["thing"] (defScope s7) := ⟨rfl, rfl, rfl, by decide +kernel, rfl, by decide +kernel, by decide +kernel⟩
def r_is_row : List D → D → Prop := fun ds d => ∃ (t : Bool) (xs : List D), ds = [.sq t xs] ∧ d = .bl true
theorem d_is_row (T : Txt K mg) {f : Addr} {fd : FuncData} (Fu : Fun K "is_row" "is_row" s7 f fd) : FnOk P w K mg base CX0 1 f fd ["thing"] (spG (relP r_is_row)) := by
  refine fn_ok Fu sc7 (fun ds F W d W' h => by obtain ⟨⟨_, _, rfl, _⟩, _⟩ := h; rfl) (fun cdv A outer s H E hr ds W d W' vs F h hv => ?_)
  obtain ⟨⟨t, xs, rfl, rfl⟩, rfl⟩ := h
  cases hv with | @cons v_thing _ _ _ h_thing hv => ?_
  cases hv
  have key : ∀ {T1 : String} {q1 q2 : Bool}, (D.sq t xs).ty = some T1 → kitB T1 "list" = some q1 → kitB T1 "tuple" = some q2 → (q1 || q2) = true → BlkS (cxOf CX0 P w K mg base ["thing"] "is_row" (defScope s7) f cdv A outer s H E).nox (defBody s7) (L2.start ["thing"] [v_thing]) F W' { nx := fun _ _ W2 => D.bl true = .non ∧ W2 = W', rt := fun d' W2 => d' = .bl true ∧ W2 = W' } := by
    intro T1 q1 q2 h3 h4 h5 h6
    exact bl_ret (ev_isi2 (U := "list") (U2 := "tuple") T.isinstance T.list T.tuple (ev_var (i := 0) rfl h_thing) h3 h4 h5 (by decide +kernel) (by decide +kernel)) ⟨by rw [h6], rfl⟩
  cases t with
  | false => exact key (T1 := "list") (q1 := true) (q2 := false) rfl (by decide +kernel) (by decide +kernel) rfl
  | true => exact key (T1 := "tuple") (q1 := false) (q2 := true) rfl (by decide +kernel) (by decide +kernel) rfl

theorem nm8_len {z : Str} (h : z ∈ Nm8) : 1 ≤ z.length ∧ z.length ≤ 2 := by
  have : ∀ z ∈ Nm8, 1 ≤ z.length ∧ z.length ≤ 2 := by decide +kernel
  exact this z h
theorem nm8_cps {z : Str} (h : z ∈ Nm8) : z.cps.toList.length ≤ 100000 := by
  have : ∀ z ∈ Nm8, z.cps.toList.length ≤ 100000 := by decide +kernel
  exact this z h
theorem nm8_at {z : Str} (h : z ∈ Nm8) : (atI z.cps.toList 0).isSome = true := by
  have : ∀ z ∈ Nm8, (atI z.cps.toList 0).isSome = true := by decide +kernel
  exact this z h

def m_is_name (thing : Str) : Bool := (if ((!true) || ((!((decide ((1 : Int) ≤ ((thing).length : Int))) && (decide (((thing).length : Int) ≤ (8 : Int))))) || (!(decide ((sgAt thing (0 : Int)) ∈ (("abcdefghijklmnopqrstuvwxyz" : Str)).cps.toList))))) = true then false else (((((thing).cps.toList).map fun x4 => ((decide (x4 ∈ (("abcdefghijklmnopqrstuvwxyz" : Str)).cps.toList)) || (decide (x4 ∈ (("0123456789" : Str)).cps.toList))))).all id))
def r_is_name : List D → D → Prop := fun ds d => ∃ (thing : Str), (thing ∈ Nm8) ∧ ds = [D.str thing] ∧ d = D.bl (m_is_name thing)
abbrev s8 : Stmt := topS 8
abbrev N8 : List Str := ["thing", "sign"]
theorem sc8 : FnScope N8 ["thing"] (defScope s8) := ⟨rfl, rfl, rfl, by decide +kernel, rfl, by decide +kernel, by decide +kernel⟩
theorem d_is_name (T : Txt K mg)  {f : Addr} {fd : FuncData} (Fu : Fun K "is_name" "is_name" s8 f fd) : FnOk P w K mg base CX0 1 f fd ["thing"] (spG (relP r_is_name)) := by
  refine fn_ok Fu sc8 (fun ds F W d W' h => by obtain ⟨⟨_, _, rfl, _⟩, _⟩ := h; rfl) (fun cdv A outer s H E hr ds W d W' vs F h hv => ?_)
  have nd_ := sc8.nd
  obtain ⟨⟨thing, hp_, rfl, rfl⟩, rfl⟩ := h
  cases hv with | @cons v_thing _ _ _ h_thing hv => ?_
  cases hv
  cases h_thing
  have hz_ : 1 ≤ thing.length ∧ thing.length ≤ 2 := nm8_len hp_
  have hz2_ : thing.cps.toList.length ≤ 100000 := nm8_cps hp_
  have hz3_ : 100000 ≤ sizeLine := by decide
  refine bl_whenR (q := ((!true) || ((!((decide ((1 : Int) ≤ ((thing).length : Int))) && (decide (((thing).length : Int) ≤ (8 : Int))))) || (!(decide ((sgAt thing (0 : Int)) ∈ (("abcdefghijklmnopqrstuvwxyz" : Str)).cps.toList)))))) (f := D.bl) (x := false) (y := (((((thing).cps.toList).map fun x4 => ((decide (x4 ∈ (("abcdefghijklmnopqrstuvwxyz" : Str)).cps.toList)) || (decide (x4 ∈ (("0123456789" : Str)).cps.toList))))).all id)) (et_w (ew_or (et_not (et_val (ev_isi (U := "str") (q := true) T.isinstance T.str (ev_var (i := 0) rfl (.str _)) rfl (by decide +kernel) (by decide +kernel)))) (fun hb1 => (ew_or (et_not (et_ch ev_int (ev_blt T.len (cl_lenS (by omega)) (ea_cons (ev_var (i := 0) rfl (.str _)) ea_nil) rfl) cm_le (fun _ => (ev_gI T.MOST_NAME)) cm_le)) (fun hb2 => (ew_or1 (et_cm (ev_sg (ev_var (i := 0) rfl (.str _)) ev_int (by omega) (by exact nm8_at hp_)) (ev_gS T.SMALL) cm_sgNi (by with_unfolding_all rfl)))))))) (fun hq3 => ?_) (fun hq3 => ?_)
  · exact bl_ret ev_bl ⟨rfl, rfl⟩
  · exact bl_ret (ev_blt T.all cl_all (ea_cons (ev_ofLc (lc_M (own := [("sign", 1)]) (f := eSg) (g := D.bl) (fun x4 => ((decide (x4 ∈ (("abcdefghijklmnopqrstuvwxyz" : Str)).cps.toList)) || (decide (x4 ∈ (("0123456789" : Str)).cps.toList)))) (ei_sg (ev_var (i := 0) rfl (.str _))) (by first | assumption | omega | (simp only [List.length_map, enumT_len, rg_len]; omega) | (simp; done) | (simp; omega)) (fun x4 hx5 v_ F1_ e_ r6 => by
      intro s_ H0_ C_ cl_ fp_
      refine tg_name (i := 1) ?_
      refine ⟨((wipe_set (by decide)).trans (wipe_wipe)), fun s_ H0_ C_ cl_ fp_ => ?_, fun ht_ s_ H0_ C_ cl_ fp_ => ?_⟩
      · exact ets_nil
      · exact (ev_or (ev_cm (ev_var (i := 1) rfl r6) (ev_gS T.SMALL) cm_sgIn (by with_unfolding_all rfl)) (fun hb7 => (ev_bop1 (ev_cm (ev_var (i := 1) rfl r6) (ev_gS T.FIGURES) cm_sgIn (by with_unfolding_all rfl))))))) (ok := blkOk_by (N := N8) (sc := defScope s8) (by decide +kernel))) ea_nil) rfl) ⟨rfl, rfl⟩
theorem name_ok {z : Str} (h : z ∈ Nm8) : m_is_name z = true := by
  have : ∀ z ∈ Nm8, m_is_name z = true := by decide +kernel
  exact this z h
def m_is_pages (thing : (List Str)) : Bool := (if ((!true) || (!((((thing).map fun x2 => (m_is_name (x2)))).all id))) = true then false else (decide (thing = (sortS thing))))
def r_is_pages : List D → D → Prop := fun ds d => ∃ (thing : (List Str)), (Pg thing) ∧ ds = [(eR true D.str) thing] ∧ d = D.bl (m_is_pages thing)
abbrev s9 : Stmt := topS 9
abbrev N9 : List Str := ["thing", "one"]
theorem sc9 : FnScope N9 ["thing"] (defScope s9) := ⟨rfl, rfl, rfl, by decide +kernel, rfl, by decide +kernel, by decide +kernel⟩
theorem d_is_pages (T : Txt K mg) (C_is_name : FnD P w K mg base 1 "is_name" ["thing"] (relP r_is_name)) {f : Addr} {fd : FuncData} (Fu : Fun K "is_pages" "is_pages" s9 f fd) : FnOk P w K mg base CX0 2 f fd ["thing"] (spG (relP r_is_pages)) := by
  refine fn_ok Fu sc9 (fun ds F W d W' h => by obtain ⟨⟨_, _, rfl, _⟩, _⟩ := h; rfl) (fun cdv A outer s H E hr ds W d W' vs F h hv => ?_)
  have nd_ := sc9.nd
  obtain ⟨⟨thing, hp_, rfl, rfl⟩, rfl⟩ := h
  cases hv with | @cons v_thing _ _ _ h_thing hv => ?_
  cases hv
  have hl_thing := rep_len h_thing
  refine bl_whenR (q := ((!true) || (!((((thing).map fun x2 => (m_is_name (x2)))).all id)))) (f := D.bl) (x := false) (y := (decide (thing = (sortS thing)))) (et_w (ew_or (et_not (et_val (ev_isi (U := "tuple") (q := true) T.isinstance T.tuple (ev_var (i := 0) rfl h_thing) rfl (by decide +kernel) (by decide +kernel)))) (fun hb1 => (ew_or1 (et_not (et_val (ev_blt T.all cl_all (ea_cons (ev_ofLc (lc_M (own := [("one", 1)]) (f := D.str) (g := D.bl) (fun x2 => (m_is_name (x2))) (ei_row (ev_var (i := 0) rfl h_thing)) (by first | exact rep_len h_thing | assumption | omega | (simp only [List.length_map, enumT_len, rg_len]; omega) | (simp; done) | (simp; omega)) (fun x2 hx3 v_ F1_ e_ r4 => by
      replace h_thing := h_thing.mono e_
      intro s_ H0_ C_ cl_ fp_
      cases r4
      refine tg_name (i := 1) ?_
      refine ⟨((wipe_set (by decide)).trans (wipe_wipe)), fun s_ H0_ C_ cl_ fp_ => ?_, fun ht_ s_ H0_ C_ cl_ fp_ => ?_⟩
      · exact ets_nil
      · exact (ev_call C_is_name (hr.mono (by decide)) (ea_cons (ev_var (i := 1) rfl (.str _)) ea_nil) (⟨(x2), (by exact hp_.1 _ hx3), rfl, rfl⟩)))) (ok := blkOk_by (N := N9) (sc := defScope s9) (by decide +kernel))) ea_nil) rfl))))))) (fun hq5 => ?_) (fun hq5 => ?_)
  · exact bl_ret ev_bl ⟨rfl, rfl⟩
  · exact bl_ret (ev_cm (ev_bty T.list cl_listR (ea_cons (ev_var (i := 0) rfl h_thing) ea_nil) rfl) (ev_sortsetT T.sorted T.set (ev_var (i := 0) rfl h_thing) (by have := hp_.2.2; omega) (by exact asc_nd hp_.2.1)) (cm_eq (f := (eR false D.str)) (x := thing) (y := (sortS thing)) hr (Lw.row lw_str))) ⟨rfl, rfl⟩
theorem pages_ok {p : List Str} (h : Pg p) : m_is_pages p = true := by
  unfold m_is_pages
  have h1 : ((p.map fun x => m_is_name x).all id) = true := by
    rw [List.all_map, List.all_eq_true]
    exact fun z hz => name_ok (h.1 z hz)
  rw [h1, sortS_id h.2.1]
  simp
theorem all_ok {α : Type} {l : List α} {f : α → Bool} (h : ∀ x ∈ l, f x = true) : ((l.map f).all id) = true := by
  rw [List.all_map, List.all_eq_true]; exact h
theorem keys_nm {cs : List (List Str)} {a : Int} {t : List (Str × Int)} (h : Ck cs a t) : ∀ z ∈ t.map (·.1), z ∈ Nm8 := fun z hz => by
  obtain ⟨kv, h1, rfl⟩ := List.mem_map.mp hz
  exact h.nm kv h1
theorem nums_in {cs : List (List Str)} {a : Int} {t : List (Str × Int)} (h : Ck cs a t) : ∀ n ∈ t.map (·.2), (0 : Int) ≤ n ∧ n ≤ cs.length := fun z hz => by
  obtain ⟨kv, h1, rfl⟩ := List.mem_map.mp hz
  exact h.nn kv h1
def r_check_commits : List D → D → Prop := fun ds d => ∃ (commits : (List (List Str))) (answered : Int) (contents : (List (Str × Int))), (Ck commits answered contents) ∧ ds = [(eR false (eR true D.str)) commits, D.int answered, (eT Sum.inr D.int) contents] ∧ d = .non
abbrev s12 : Stmt := topS 12
abbrev N12 : List Str := ["commits", "answered", "contents", "pages", "page", "number"]
theorem sc12 : FnScope N12 ["commits", "answered", "contents"] (defScope s12) := ⟨rfl, rfl, rfl, by decide +kernel, rfl, by decide +kernel, by decide +kernel⟩
theorem d_check_commits (T : Txt K mg) (C_is_integer : FnD P w K mg base 1 "is_integer" ["thing"] (relP r_is_integer)) (C_is_row : FnD P w K mg base 1 "is_row" ["thing"] (relP r_is_row)) (C_is_name : FnD P w K mg base 1 "is_name" ["thing"] (relP r_is_name)) (C_is_pages : FnD P w K mg base 2 "is_pages" ["thing"] (relP r_is_pages)) {f : Addr} {fd : FuncData} (Fu : Fun K "check_commits" "check_commits" s12 f fd) : FnOk P w K mg base CX0 3 f fd ["commits", "answered", "contents"] (spG (relP r_check_commits)) := by
  refine fn_ok Fu sc12 (fun ds F W d W' h => by obtain ⟨⟨_, _, _, _, rfl, _⟩, _⟩ := h; rfl) (fun cdv A outer s H E hr ds W d W' vs F h hv => ?_)
  have nd_ := sc12.nd
  obtain ⟨⟨commits, answered, contents, hp_, rfl, rfl⟩, rfl⟩ := h
  cases hv with | @cons v_commits _ _ _ h_commits hv => ?_
  cases hv with | @cons v_answered _ _ _ h_answered hv => ?_
  cases hv with | @cons v_contents _ _ _ h_contents hv => ?_
  cases hv
  have hl_commits := rep_len h_commits
  cases h_answered
  have h_lo := hp_.lo
  have h_hi := hp_.hi
  have h_len := hp_.len
  have h_sz := hp_.sz
  refine bl_never (q := ((!true) || (!((((commits).map fun x2 => (m_is_pages (x2)))).all id)))) (et_w (ew_or (et_not (et_val (ev_call C_is_row (hr.mono (by decide)) (ea_cons (ev_var (i := 0) rfl h_commits) ea_nil) ⟨_, _, rfl, rfl⟩))) (fun hb1 => (ew_or1 (et_not (et_val (ev_blt T.all cl_all (ea_cons (ev_ofLc (lc_M (own := [("pages", 3)]) (f := (eR true D.str)) (g := D.bl) (fun x2 => (m_is_pages (x2))) (ei_row (ev_var (i := 0) rfl h_commits)) (by first | exact rep_len h_commits | assumption | omega | (simp only [List.length_map, enumT_len, rg_len]; omega) | (simp; done) | (simp; omega)) (fun x2 hx3 v_ F1_ e_ r4 => by
      replace h_commits := h_commits.mono e_
      replace h_contents := h_contents.mono e_
      intro s_ H0_ C_ cl_ fp_
      refine tg_name (i := 3) ?_
      refine ⟨((wipe_set (by decide)).trans (wipe_wipe)), fun s_ H0_ C_ cl_ fp_ => ?_, fun ht_ s_ H0_ C_ cl_ fp_ => ?_⟩
      · exact ets_nil
      · exact (ev_call C_is_pages (hr.mono (by decide)) (ea_cons (ev_var (i := 3) rfl r4) ea_nil) (⟨(x2), (by exact hp_.pg _ (by assumption)), rfl, rfl⟩)))) (ok := blkOk_by (N := N12) (sc := defScope s12) (by decide +kernel))) ea_nil) rfl))))))) (by simp only [all_ok (fun p hp => pages_ok (hp_.pg p hp))]; rfl) ?_
  refine bl_never (q := ((!true) || (!((decide ((0 : Int) ≤ answered)) && (decide (answered ≤ ((commits).length : Int))))))) (et_w (ew_or (et_not (et_val (ev_call C_is_integer (hr.mono (by decide)) (ea_cons (ev_var (i := 1) rfl (.int _)) ea_nil) ⟨_, rfl, rfl⟩))) (fun hb6 => (ew_or1 (et_not (et_ch ev_int (ev_var (i := 1) rfl (.int _)) cm_le (fun _ => (ev_blt T.len cl_lenR (ea_cons (ev_var (i := 0) rfl h_commits) ea_nil) rfl)) cm_le)))))) (by simp; omega) ?_
  refine bl_never (q := ((!true) || (!((((((contents).map (·.1))).map fun x9 => (m_is_name (x9)))).all id)))) (et_w (ew_or (et_not (et_val (ev_isi (U := "dict") (q := true) T.isinstance T.dict (ev_var (i := 2) rfl h_contents) rfl (by decide +kernel) (by decide +kernel)))) (fun hb8 => (ew_or1 (et_not (et_val (by
      refine ev_lkT h_contents (fun F9_ l9_ od9_ vs9_ el9_ lk9_ hF9_ hk9_ => ?_)
      subst el9_
      replace h_commits := Rep.lk lk9_ h_commits
      replace h_contents := Rep.lk lk9_ h_contents
      exact (ev_blt T.all cl_all (ea_cons (ev_ofLc (lc_M (own := [("page", 4)]) (f := D.str) (g := D.bl) (fun x9 => (m_is_name (x9))) (ei_keys keS (ev_var (i := 2) rfl (.ow _)) hF9_ hk9_) (by rw [List.length_map]; omega) (fun x9 hx10 v_ F1_ e_ r11 => by
      replace h_commits := h_commits.mono e_
      replace h_contents := h_contents.mono e_
      intro s_ H0_ C_ cl_ fp_
      cases r11
      refine tg_name (i := 4) ?_
      refine ⟨((wipe_set (by decide)).trans (wipe_wipe)), fun s_ H0_ C_ cl_ fp_ => ?_, fun ht_ s_ H0_ C_ cl_ fp_ => ?_⟩
      · exact ets_nil
      · exact (ev_call C_is_name (hr.mono (by decide)) (ea_cons (ev_var (i := 4) rfl (.str _)) ea_nil) (⟨(x9), (by exact keys_nm hp_ _ (by assumption)), rfl, rfl⟩)))) (ok := blkOk_by (N := N12) (sc := defScope s12) (by decide +kernel))) ea_nil) rfl)))))))) (by simp only [all_ok (fun p hp => name_ok (keys_nm hp_ p hp))]; rfl) ?_
  refine bl_never (q := (!((((((contents).map (·.2))).map fun x13 => (true && ((decide ((0 : Int) ≤ x13)) && (decide (x13 ≤ ((commits).length : Int))))))).all id))) (et_not (et_val (by
      refine ev_lkT h_contents (fun F9_ l9_ od9_ vs9_ el9_ lk9_ hF9_ hk9_ => ?_)
      subst el9_
      replace h_commits := Rep.lk lk9_ h_commits
      replace h_contents := Rep.lk lk9_ h_contents
      exact (ev_blt T.all cl_all (ea_cons (ev_ofLc (lc_M (own := [("number", 5)]) (f := D.int) (g := D.bl) (fun x13 => (true && ((decide ((0 : Int) ≤ x13)) && (decide (x13 ≤ ((commits).length : Int)))))) (ei_vals (g := D.int) (t := contents) keS (ev_var (i := 2) rfl (.ow _)) hF9_ hk9_) (by rw [List.length_map]; omega) (fun x13 hx14 v_ F1_ e_ r15 => by
      replace h_commits := h_commits.mono e_
      replace h_contents := h_contents.mono e_
      intro s_ H0_ C_ cl_ fp_
      cases r15
      refine tg_name (i := 5) ?_
      refine ⟨((wipe_set (by decide)).trans (wipe_wipe)), fun s_ H0_ C_ cl_ fp_ => ?_, fun ht_ s_ H0_ C_ cl_ fp_ => ?_⟩
      · exact ets_nil
      · exact (ev_and (ev_call C_is_integer (hr.mono (by decide)) (ea_cons (ev_var (i := 5) rfl (.int _)) ea_nil) ⟨_, rfl, rfl⟩) (fun hb16 => (ev_bop1 (ev_ch ev_int (ev_var (i := 5) rfl (.int _)) cm_le (fun _ => (ev_blt T.len cl_lenR (ea_cons (ev_var (i := 0) rfl h_commits) ea_nil) rfl)) cm_le)))))) (ok := blkOk_by (N := N12) (sc := defScope s12) (by decide +kernel))) ea_nil) rfl)))) (by rw [all_ok (fun n hn => by have := nums_in hp_ n hn; simp; omega)]; rfl) ?_
  exact bl_nil ⟨rfl, rfl⟩
end
end B
set_option Elab.async false
set_option linter.all false
set_option maxRecDepth 100000
set_option maxHeartbeats 1000000
namespace B
open PySem PySem.Spec PyProof.Rows L2 Z
inductive Vd where
  | pre (a b : Int)
  | apart (x : Str) (y : Option Str)
deriving DecidableEq
def Vd.isPre : Vd → Bool
  | .pre _ _ => true
  | .apart _ _ => false
def Vd.low : Vd → Int × Int
  | .pre a b => (a, b)
  | .apart _ _ => (0, 0)
def Vd.two : Vd → Str × Option Str
  | .pre _ _ => ("", none)
  | .apart x y => (x, y)
def ePr (CP : Addr) (p : Int × Int) : D := .ob CP [("least", .int p.1), ("greatest", .int p.2)]
def eAp (CA : Addr) (p : Str × Option Str) : D := .ob CA [("one", .str p.1), ("other", eO D.str p.2)]
def eVd (CP CA : Addr) : Vd → D
  | .pre a b => ePr CP (a, b)
  | .apart x y => eAp CA (x, y)
theorem eVd_pre {CP CA : Addr} {v : Vd} (h : v.isPre = true) : eVd CP CA v = ePr CP v.low := by cases v with
  | pre a b => rfl
  | apart x y => cases h
theorem eVd_two {CP CA : Addr} {v : Vd} (h : v.isPre = false) : eVd CP CA v = eAp CA v.two := by cases v with
  | apart x y => rfl
  | pre a b => cases h
structure Cl (K : PySem.W.Frag) (mg : Str → Option Value) (CP CA : Addr) : Prop where
  p : ClsF K CP
  a : ClsF K CA
  gp : mg "Prefix" = some (.ref CP)
  ga : mg "Apart" = some (.ref CA)
  least : NoAttr K CP "least"
  greatest : NoAttr K CP "greatest"
  one : NoAttr K CA "one"
  other : NoAttr K CA "other"
  ipp : PySem.W.kitOne K (.ref CP) (.ref CP) = some true
  ipa : PySem.W.kitOne K (.ref CP) (.ref CA) = some false
  iap : PySem.W.kitOne K (.ref CA) (.ref CP) = some false
  iaa : PySem.W.kitOne K (.ref CA) (.ref CA) = some true
  npp : PySem.W.notFirst K CP (.ref CP) = true
  npa : PySem.W.notFirst K CP (.ref CA) = true
  nap : PySem.W.notFirst K CA (.ref CP) = true
  naa : PySem.W.notFirst K CA (.ref CA) = true
def rel_initP : List D → List (Str × D) → Prop := fun ds fds => ∃ (a b : Int), ds = [.int a, .int b] ∧ fds = [(("least" : Str), .int a), (("greatest" : Str), .int b)]
def rel_initA : List D → List (Str × D) → Prop := fun ds fds => ∃ (x : Str) (y : Option Str), ds = [.str x, eO D.str y] ∧ fds = [(("one" : Str), .str x), (("other" : Str), eO D.str y)]
section
variable {P : Program} {w : World} {K : PySem.W.Frag} {mg : Str → Option Value} {base : Heap} {CP CA : Addr}

def m_interval (commits : (List (List Str))) (page : Str) (number : Int) : (Option (Int × Int)) := (if ((decide ((0 : Int) < number)) && (!(decide (page ∈ (ixI [] commits (number - (1 : Int))))))) = true then none else (some (number, (if (!decide (((((enumT commits)).filter fun x3 => ((decide (page ∈ (x3).2)) && (decide (number < ((x3).1 + (1 : Int)))))).map fun x3 => ((x3).1 + (1 : Int))) = ([] : List Int))) = true then ((ixI 0 ((((enumT commits)).filter fun x3 => ((decide (page ∈ (x3).2)) && (decide (number < ((x3).1 + (1 : Int)))))).map fun x3 => ((x3).1 + (1 : Int))) (0 : Int)) - (1 : Int)) else ((commits).length : Int)))))
def r_interval : List D → D → Prop := fun ds d => ∃ (commits : (List (List Str))) (page : Str) (number : Int), (commits.length ≤ 50 ∧ 0 ≤ number ∧ number ≤ commits.length) ∧ ds = [(eR false (eR true D.str)) commits, D.str page, D.int number] ∧ d = (eO (eP D.int D.int)) (m_interval commits page number)
abbrev s13 : Stmt := topS 13
abbrev N13 : List Str := ["commits", "page", "number", "later", "at", "pages"]
theorem sc13 : FnScope N13 ["commits", "page", "number"] (defScope s13) := ⟨rfl, rfl, rfl, by decide +kernel, rfl, by decide +kernel, by decide +kernel⟩
theorem d_interval (T : Txt K mg)  {f : Addr} {fd : FuncData} (Fu : Fun K "interval" "interval" s13 f fd) : FnOk P w K mg base CX0 1 f fd ["commits", "page", "number"] (spG (relP r_interval)) := by
  refine fn_ok Fu sc13 (fun ds F W d W' h => by obtain ⟨⟨_, _, _, _, rfl, _⟩, _⟩ := h; rfl) (fun cdv A outer s H E hr ds W d W' vs F h hv => ?_)
  have nd_ := sc13.nd
  obtain ⟨⟨commits, page, number, hp_, rfl, rfl⟩, rfl⟩ := h
  cases hv with | @cons v_commits _ _ _ h_commits hv => ?_
  cases hv with | @cons v_page _ _ _ h_page hv => ?_
  cases hv with | @cons v_number _ _ _ h_number hv => ?_
  cases hv
  have hl_commits := rep_len h_commits
  cases h_page
  cases h_number
  obtain ⟨h_len, h_n0, h_n1⟩ := hp_
  refine bl_whenR (q := ((decide ((0 : Int) < number)) && (!(decide (page ∈ (ixI [] commits (number - (1 : Int)))))))) (f := (eO (eP D.int D.int))) (x := none) (y := (some (number, (if (!decide (((((enumT commits)).filter fun x3 => ((decide (page ∈ (x3).2)) && (decide (number < ((x3).1 + (1 : Int)))))).map fun x3 => ((x3).1 + (1 : Int))) = ([] : List Int))) = true then ((ixI 0 ((((enumT commits)).filter fun x3 => ((decide (page ∈ (x3).2)) && (decide (number < ((x3).1 + (1 : Int)))))).map fun x3 => ((x3).1 + (1 : Int))) (0 : Int)) - (1 : Int)) else ((commits).length : Int))))) (et_w (ew_and (et_cm (ev_var (i := 2) rfl (.int _)) ev_int cm_gt) (fun hb1 => (ew_and1 (et_cm (ev_var (i := 1) rfl (.str _)) (ev_ix (ev_var (i := 0) rfl h_commits) (ev_sub (ev_var (i := 2) rfl (.int _)) ev_int) (ixI_at (d := []) (by have := of_decide_eq_true hb1; omega))) (cm_ni (f := D.str) (x := page) (xs := (ixI [] commits (number - (1 : Int)))) hr lw_str) (by with_unfolding_all rfl)))))) (fun hq2 => ?_) (fun hq2 => ?_)
  · exact bl_ret (ev_is (d1 := (eO (eP D.int D.int)) none) ev_non rfl) ⟨rfl, rfl⟩
  · refine bl_asgLc (i := 3) (lc_F (own := [("at", 4), ("pages", 5)]) (f := (eP D.int (eR true D.str))) (g := D.int) (fun x3 => ((decide (page ∈ (x3).2)) && (decide (number < ((x3).1 + (1 : Int)))))) (fun x3 => ((x3).1 + (1 : Int))) (ei_enumR T.enumerate (ev_var (i := 0) rfl h_commits)) (by rw [enumT_len]; omega) (fun x3 hx4 v_ F1_ e_ r5 => by
      replace h_commits := h_commits.mono e_
      have hx4m := enumT_mem hx4
      intro s_ H0_ C_ cl_ fp_
      refine tg_tup (ds := [D.int ((x3).1), (eR true D.str) ((x3).2)]) r5 (fun vs8 rr9 => ?_)
      cases rr9 with | @cons v_at _ _ _ h_at rr9 => ?_
      cases rr9 with | @cons v_pages _ _ _ h_pages rr9 => ?_
      cases rr9
      refine tgs_cons ?_
      cases h_at
      refine tg_name (i := 4) ?_
      refine tgs_cons ?_
      refine tg_name (i := 5) ?_
      refine tgs_nil ?_
      refine ⟨((wipe_set (by decide)).trans ((wipe_set (by decide)).trans (wipe_wipe))), fun s_ H0_ C_ cl_ fp_ => ?_, fun ht_ s_ H0_ C_ cl_ fp_ => ?_⟩
      · exact ets_one (et_w (ew_and (et_cm (ev_var (i := 1) rfl (.str _)) (ev_var (i := 5) rfl h_pages) (cm_in (f := D.str) (x := page) (xs := (x3).2) hr lw_str) (by with_unfolding_all rfl)) (fun hb10 => (ew_and1 (et_cm (ev_add (ev_var (i := 4) rfl (.int _)) ev_int) (ev_var (i := 2) rfl (.int _)) cm_gt)))))
      · exact (ev_add (ev_var (i := 4) rfl (.int _)) ev_int))) (ok := blkOk_by (N := N13) (sc := defScope s13) (by decide +kernel)) (fun v_later F_ e11 h_later => ?_)
    have hl_later := rep_len h_later
    replace h_commits := h_commits.mono e11
    exact bl_ret (ev_is (d1 := (eO (eP D.int D.int)) (some (number, (if (!decide (((((enumT commits)).filter fun x3 => ((decide (page ∈ (x3).2)) && (decide (number < ((x3).1 + (1 : Int)))))).map fun x3 => ((x3).1 + (1 : Int))) = ([] : List Int))) = true then ((ixI 0 ((((enumT commits)).filter fun x3 => ((decide (page ∈ (x3).2)) && (decide (number < ((x3).1 + (1 : Int)))))).map fun x3 => ((x3).1 + (1 : Int))) (0 : Int)) - (1 : Int)) else ((commits).length : Int))))) (ev_is (d1 := (eP D.int D.int) (number, (if (!decide (((((enumT commits)).filter fun x3 => ((decide (page ∈ (x3).2)) && (decide (number < ((x3).1 + (1 : Int)))))).map fun x3 => ((x3).1 + (1 : Int))) = ([] : List Int))) = true then ((ixI 0 ((((enumT commits)).filter fun x3 => ((decide (page ∈ (x3).2)) && (decide (number < ((x3).1 + (1 : Int)))))).map fun x3 => ((x3).1 + (1 : Int))) (0 : Int)) - (1 : Int)) else ((commits).length : Int)))) (ev_tup (ea_cons (ev_var (i := 2) rfl (.int _)) (ea_cons (ev_if (f := D.int) (x := ((ixI 0 ((((enumT commits)).filter fun x3 => ((decide (page ∈ (x3).2)) && (decide (number < ((x3).1 + (1 : Int)))))).map fun x3 => ((x3).1 + (1 : Int))) (0 : Int)) - (1 : Int))) (y := ((commits).length : Int)) (et_cm (ev_var (i := 3) rfl h_later) (ev_lstR ([] : List Int) (ea_nilR (f := D.int)) (by simp [rg_len, enumT_len]; try omega)) (cm_ne (f := (eR false D.int)) (x := ((((enumT commits)).filter fun x3 => ((decide (page ∈ (x3).2)) && (decide (number < ((x3).1 + (1 : Int)))))).map fun x3 => ((x3).1 + (1 : Int)))) (y := ([] : List Int)) hr (Lw.row lw_int))) (fun hi12 => (ev_sub (ev_ix (ev_var (i := 3) rfl h_later) ev_int (ixI_at (d := 0) (by exact ix0_of (by assumption)))) ev_int)) (fun hi13 => (ev_blt T.len cl_lenR (ea_cons (ev_var (i := 0) rfl h_commits) ea_nil) rfl))) ea_nil)) (by simp)) rfl) rfl) ⟨rfl, rfl⟩
def m_is_meeting (one : (Int × Int)) (other : (Int × Int)) : Bool := (decide ((if (other).1 > (one).1 then (other).1 else (one).1) ≤ (if (other).2 < (one).2 then (other).2 else (one).2)))
def r_is_meeting : List D → D → Prop := fun ds d => ∃ (one : (Int × Int)) (other : (Int × Int)), ds = [(eP D.int D.int) one, (eP D.int D.int) other] ∧ d = D.bl (m_is_meeting one other)
abbrev s16 : Stmt := topS 16
abbrev N16 : List Str := ["one", "other"]
theorem sc16 : FnScope N16 ["one", "other"] (defScope s16) := ⟨rfl, rfl, rfl, by decide +kernel, rfl, by decide +kernel, by decide +kernel⟩
theorem d_is_meeting (T : Txt K mg)  {f : Addr} {fd : FuncData} (Fu : Fun K "is_meeting" "is_meeting" s16 f fd) : FnOk P w K mg base CX0 1 f fd ["one", "other"] (spG (relP r_is_meeting)) := by
  refine fn_ok Fu sc16 (fun ds F W d W' h => by obtain ⟨⟨_, _, rfl, _⟩, _⟩ := h; rfl) (fun cdv A outer s H E hr ds W d W' vs F h hv => ?_)
  have nd_ := sc16.nd
  obtain ⟨⟨one, other, rfl, rfl⟩, rfl⟩ := h
  cases hv with | @cons v_one _ _ _ h_one hv => ?_
  cases hv with | @cons v_other _ _ _ h_other hv => ?_
  cases hv
  exact bl_ret (ev_cm (ev_blt T.max cl_max2 (ea_cons (ev_ixD (xs := _) (ev_var (i := 0) rfl h_one) ev_int rfl) (ea_cons (ev_ixD (xs := _) (ev_var (i := 1) rfl h_other) ev_int rfl) ea_nil)) rfl) (ev_blt T.min cl_min2 (ea_cons (ev_ixD (xs := _) (ev_var (i := 0) rfl h_one) ev_int rfl) (ea_cons (ev_ixD (xs := _) (ev_var (i := 1) rfl h_other) ev_int rfl) ea_nil)) rfl) cm_le) ⟨rfl, rfl⟩
abbrev s14x0 : Stmt := clsS (topS 14) 0
theorem sc14x0 : FnScope ["self", "least", "greatest"] ["self", "least", "greatest"] (defScope s14x0) := ⟨rfl, rfl, rfl, by decide +kernel, rfl, by decide +kernel, by decide +kernel⟩
theorem d_Prefix_init (T : Txt K mg) (Y : Cl K mg CP CA) {f : Addr} {fd : FuncData} (Fu : Fun K "__init__" "Prefix.__init__" s14x0 f fd) : FnOk P w K mg base CX0 1 f fd ["self", "least", "greatest"] (spI CP rel_initP) := by
  refine init_ok Fu sc14x0 (fun ds fds h => by obtain ⟨_, _, rfl, _⟩ := h; rfl) (fun cdv A outer s H E hr ds fds W x dx vs F h hv hw => ?_)
  obtain ⟨a, b, rfl, rfl⟩ := h
  cases hv with | @cons v_1 _ _ _ h_1 hv => ?_
  cases hv with | @cons v_2 _ _ _ h_2 hv => ?_
  cases hv
  refine bl_fld (ev_var (i := 1) rfl h_1) (ev_var (i := 0) rfl (.ow _)) hw Y.p.cls Y.least (by decide) (fun v1 F1 e1 h1 => ?_)
  replace h_2 := h_2.mono e1
  refine bl_fld (ev_var (i := 2) rfl h_2) (ev_var (i := 0) rfl (.ow _)) upd_same Y.p.cls Y.greatest (by simp [putF]) (fun v2 F2 e2 h2 => ?_)
  rw [upd_upd]
  exact bl_nil ⟨_, rfl, .cons (h1.mono e2) (.cons h2 .nil)⟩

abbrev s15x0 : Stmt := clsS (topS 15) 0
theorem sc15x0 : FnScope ["self", "one", "other"] ["self", "one", "other"] (defScope s15x0) := ⟨rfl, rfl, rfl, by decide +kernel, rfl, by decide +kernel, by decide +kernel⟩
theorem d_Apart_init (T : Txt K mg) (Y : Cl K mg CP CA) {f : Addr} {fd : FuncData} (Fu : Fun K "__init__" "Apart.__init__" s15x0 f fd) : FnOk P w K mg base CX0 1 f fd ["self", "one", "other"] (spI CA rel_initA) := by
  refine init_ok Fu sc15x0 (fun ds fds h => by obtain ⟨_, _, rfl, _⟩ := h; rfl) (fun cdv A outer s H E hr ds fds W x dx vs F h hv hw => ?_)
  obtain ⟨x, y, rfl, rfl⟩ := h
  cases hv with | @cons v_1 _ _ _ h_1 hv => ?_
  cases hv with | @cons v_2 _ _ _ h_2 hv => ?_
  cases hv
  refine bl_fld (ev_var (i := 1) rfl h_1) (ev_var (i := 0) rfl (.ow _)) hw Y.a.cls Y.one (by decide) (fun v1 F1 e1 h1 => ?_)
  replace h_2 := h_2.mono e1
  refine bl_fld (ev_var (i := 2) rfl h_2) (ev_var (i := 0) rfl (.ow _)) upd_same Y.a.cls Y.other (by simp [putF]) (fun v2 F2 e2 h2 => ?_)
  rw [upd_upd]
  exact bl_nil ⟨_, rfl, .cons (h1.mono e2) (.cons h2 .nil)⟩

def m_Prefix_bool (self : (Int × Int)) : Bool := true
def r_Prefix_bool (CP : Addr) : List D → D → Prop := fun ds d => ∃ (self : (Int × Int)), ds = [(ePr CP) self] ∧ d = D.bl (m_Prefix_bool self)
abbrev s14x1 : Stmt := clsS (topS 14) 1
abbrev N14x1 : List Str := ["self"]
theorem sc14x1 : FnScope N14x1 ["self"] (defScope s14x1) := ⟨rfl, rfl, rfl, by decide +kernel, rfl, by decide +kernel, by decide +kernel⟩
theorem d_Prefix_bool (T : Txt K mg)  {f : Addr} {fd : FuncData} (Fu : Fun K "__bool__" "Prefix.__bool__" s14x1 f fd) : FnOk P w K mg base CX0 1 f fd ["self"] (spG (relP (r_Prefix_bool CP))) := by
  refine fn_ok Fu sc14x1 (fun ds F W d W' h => by obtain ⟨⟨_, rfl, _⟩, _⟩ := h; rfl) (fun cdv A outer s H E hr ds W d W' vs F h hv => ?_)
  have nd_ := sc14x1.nd
  obtain ⟨⟨self, rfl, rfl⟩, rfl⟩ := h
  cases hv with | @cons v_self _ _ _ h_self hv => ?_
  cases hv
  exact bl_ret ev_bl ⟨rfl, rfl⟩
def m_Apart_bool (self : (Str × Option Str)) : Bool := false
def r_Apart_bool (CA : Addr) : List D → D → Prop := fun ds d => ∃ (self : (Str × Option Str)), ds = [(eAp CA) self] ∧ d = D.bl (m_Apart_bool self)
abbrev s15x1 : Stmt := clsS (topS 15) 1
abbrev N15x1 : List Str := ["self"]
theorem sc15x1 : FnScope N15x1 ["self"] (defScope s15x1) := ⟨rfl, rfl, rfl, by decide +kernel, rfl, by decide +kernel, by decide +kernel⟩
theorem d_Apart_bool (T : Txt K mg)  {f : Addr} {fd : FuncData} (Fu : Fun K "__bool__" "Apart.__bool__" s15x1 f fd) : FnOk P w K mg base CX0 1 f fd ["self"] (spG (relP (r_Apart_bool CA))) := by
  refine fn_ok Fu sc15x1 (fun ds F W d W' h => by obtain ⟨⟨_, rfl, _⟩, _⟩ := h; rfl) (fun cdv A outer s H E hr ds W d W' vs F h hv => ?_)
  have nd_ := sc15x1.nd
  obtain ⟨⟨self, rfl, rfl⟩, rfl⟩ := h
  cases hv with | @cons v_self _ _ _ h_self hv => ?_
  cases hv
  exact bl_ret ev_bl ⟨rfl, rfl⟩
def r_Prefix_eq (CP CA : Addr) : List D → D → Prop := fun ds d => ∃ (self : (Int × Int)) (other : Vd), ds = [(ePr CP) self, eVd CP CA other] ∧ d = .bl (decide (Vd.pre self.1 self.2 = other))
abbrev s14x2 : Stmt := clsS (topS 14) 2
abbrev N14x2 : List Str := ["self", "other"]
theorem sc14x2 : FnScope N14x2 ["self", "other"] (defScope s14x2) := ⟨rfl, rfl, rfl, by decide +kernel, rfl, by decide +kernel, by decide +kernel⟩
theorem d_Prefix_eq (T : Txt K mg) (Y : Cl K mg CP CA) {f : Addr} {fd : FuncData} (Fu : Fun K "__eq__" "Prefix.__eq__" s14x2 f fd) : FnOk P w K mg base CX0 1 f fd ["self", "other"] (spG (relP (r_Prefix_eq CP CA))) := by
  refine fn_ok Fu sc14x2 (fun ds F W d W' h => by obtain ⟨⟨_, _, rfl, _⟩, _⟩ := h; rfl) (fun cdv A outer s H E hr ds W d W' vs F h hv => ?_)
  have nd_ := sc14x2.nd
  obtain ⟨⟨self, other, rfl, rfl⟩, rfl⟩ := h
  cases hv with | @cons v_self _ _ _ h_self hv => ?_
  cases hv with | @cons v_other _ _ _ h_other hv => ?_
  cases hv
  cases other with
  | pre a b =>
    replace h_other : Rep F v_other ((ePr CP) (a, b)) := h_other
    exact bl_ret (ev_is (d1 := .bl (decide (Vd.pre self.1 self.2 = .pre a b))) (ev_and (ev_isiO T.isinstance Y.gp (ev_var (i := 1) rfl h_other) Y.p Y.ipp) (fun hb1 => (ev_bop1 (ev_cm (ev_tupR ((self).1 :: ((self).2 :: ([] : List Int))) (ea_consR (f := D.int) (x := (self).1) (ev_fld (ev_var (i := 0) rfl h_self) Y.p.cls Y.least rfl) (ea_consR (f := D.int) (x := (self).2) (ev_fld (ev_var (i := 0) rfl h_self) Y.p.cls Y.greatest rfl) (ea_nilR (f := D.int)))) (by simp [rg_len, enumT_len]; try omega)) (ev_tupR (((a, b)).1 :: (((a, b)).2 :: ([] : List Int))) (ea_consR (f := D.int) (x := ((a, b)).1) (ev_fld (ev_var (i := 1) rfl h_other) Y.p.cls Y.least rfl) (ea_consR (f := D.int) (x := ((a, b)).2) (ev_fld (ev_var (i := 1) rfl h_other) Y.p.cls Y.greatest rfl) (ea_nilR (f := D.int)))) (by simp [rg_len, enumT_len]; try omega)) (cm_eq (f := (eR true D.int)) (x := ((self).1 :: ((self).2 :: ([] : List Int)))) (y := (((a, b)).1 :: (((a, b)).2 :: ([] : List Int)))) hr (Lw.row lw_int)))))) (congrArg D.bl (by rw [Bool.eq_iff_iff]; simp))) ⟨rfl, rfl⟩
  | apart a b =>
    replace h_other : Rep F v_other ((eAp CA) (a, b)) := h_other
    exact bl_ret (ev_is (d1 := .bl (decide (Vd.pre self.1 self.2 = .apart a b))) (ev_and (ev_isiO T.isinstance Y.gp (ev_var (i := 1) rfl h_other) Y.a Y.iap) (fun h => absurd h (by decide)) (q2 := false)) (congrArg D.bl (by simp))) ⟨rfl, rfl⟩
def r_Apart_eq (CP CA : Addr) : List D → D → Prop := fun ds d => ∃ (self : (Str × Option Str)) (other : Vd), ds = [(eAp CA) self, eVd CP CA other] ∧ d = .bl (decide (Vd.apart self.1 self.2 = other))
abbrev s15x2 : Stmt := clsS (topS 15) 2
abbrev N15x2 : List Str := ["self", "other"]
theorem sc15x2 : FnScope N15x2 ["self", "other"] (defScope s15x2) := ⟨rfl, rfl, rfl, by decide +kernel, rfl, by decide +kernel, by decide +kernel⟩
theorem d_Apart_eq (T : Txt K mg) (Y : Cl K mg CP CA) {f : Addr} {fd : FuncData} (Fu : Fun K "__eq__" "Apart.__eq__" s15x2 f fd) : FnOk P w K mg base CX0 1 f fd ["self", "other"] (spG (relP (r_Apart_eq CP CA))) := by
  refine fn_ok Fu sc15x2 (fun ds F W d W' h => by obtain ⟨⟨_, _, rfl, _⟩, _⟩ := h; rfl) (fun cdv A outer s H E hr ds W d W' vs F h hv => ?_)
  have nd_ := sc15x2.nd
  obtain ⟨⟨self, other, rfl, rfl⟩, rfl⟩ := h
  cases hv with | @cons v_self _ _ _ h_self hv => ?_
  cases hv with | @cons v_other _ _ _ h_other hv => ?_
  cases hv
  cases other with
  | apart a b =>
    replace h_other : Rep F v_other ((eAp CA) (a, b)) := h_other
    exact bl_ret (ev_is (d1 := .bl (decide (Vd.apart self.1 self.2 = .apart a b))) (ev_and (ev_isiO T.isinstance Y.ga (ev_var (i := 1) rfl h_other) Y.a Y.iaa) (fun hb1 => (ev_bop1 (ev_cm (ev_is (d1 := (eP D.str (eO D.str)) ((self).1, (self).2)) (ev_tup (ea_cons (ev_fld (ev_var (i := 0) rfl h_self) Y.a.cls Y.one rfl) (ea_cons (ev_fld (ev_var (i := 0) rfl h_self) Y.a.cls Y.other rfl) ea_nil)) (by simp)) rfl) (ev_is (d1 := (eP D.str (eO D.str)) (((a, b)).1, ((a, b)).2)) (ev_tup (ea_cons (ev_fld (ev_var (i := 1) rfl h_other) Y.a.cls Y.one rfl) (ea_cons (ev_fld (ev_var (i := 1) rfl h_other) Y.a.cls Y.other rfl) ea_nil)) (by simp)) rfl) (cm_eq (f := (eP D.str (eO D.str))) (x := ((self).1, (self).2)) (y := (((a, b)).1, ((a, b)).2)) hr (Lw.pairM lw_str (Lw.opt lw_str (fun _ => rfl) (fun _ => rfl)))))))) (congrArg D.bl (by rw [Bool.eq_iff_iff]; simp))) ⟨rfl, rfl⟩
  | pre a b =>
    replace h_other : Rep F v_other ((ePr CP) (a, b)) := h_other
    exact bl_ret (ev_is (d1 := .bl (decide (Vd.apart self.1 self.2 = .pre a b))) (ev_and (ev_isiO T.isinstance Y.ga (ev_var (i := 1) rfl h_other) Y.p Y.ipa) (fun h => absurd h (by decide)) (q2 := false)) (congrArg D.bl (by simp))) ⟨rfl, rfl⟩
/-- names told -/
def ApOk (x : Str) (y : Option Str) (commits : List (List Str)) (answered : Int) (contents : List (Str × Int)) : Prop := Ck commits answered contents ∧ x ∈ Nm8 ∧ ∀ z, y = some z → z ∈ Nm8
theorem nm_get {y : Option Str} (h : ∀ z, y = some z → z ∈ Nm8) (h2 : (!y.isNone) = true) : y.getD "" ∈ Nm8 := by
  cases y with
  | none => cases h2
  | some z => exact h z rfl
theorem tGet_mem {κ α : Type} [DecidableEq κ] {k : κ} {v : α} : ∀ {t : List (κ × α)}, tGet t k = some v → (k, v) ∈ t
  | [], h => by cases h
  | q :: r, h => by
    unfold tGet at h
    split at h
    · rename_i e; cases h; rw [← e]; exact List.mem_cons_self
    · exact List.mem_cons_of_mem _ (tGet_mem h)
theorem ck_num {cs : List (List Str)} {a : Int} {t : List (Str × Int)} (h : Ck cs a t) {p : Str} (hp : (tGet t p).isSome = true) : cs.length ≤ 50 ∧ 0 ≤ (tGet t p).getD 0 ∧ (tGet t p).getD 0 ≤ cs.length := by
  obtain ⟨n, hn⟩ := Option.isSome_iff_exists.mp hp
  rw [hn]
  have := h.nn _ (tGet_mem hn)
  exact ⟨h.len, this.1, this.2⟩
def m_Apart_shows (self : (Str × Option Str)) (commits : (List (List Str))) (answered : Int) (contents : (List (Str × Int))) : Bool := (if ((!(m_is_name (self).1)) || (!(tGet contents (self).1).isSome)) = true then false else (if ((!((self).2).isNone) && ((!(m_is_name (((self).2).getD ("" : Str)))) || (!(tGet contents (((self).2).getD ("" : Str))).isSome))) = true then false else (if (decide ((some (self).1) = (self).2)) = true then ((m_interval (commits) (self).1 ((tGet contents (self).1).getD 0))).isNone else ((!((m_interval (commits) (self).1 ((tGet contents (self).1).getD 0))).isNone) && ((!((if ((self).2).isNone = true then (some (answered, ((commits).length : Int))) else (m_interval (commits) (((self).2).getD ("" : Str)) ((tGet contents (((self).2).getD ("" : Str))).getD 0)))).isNone) && (!(m_is_meeting (((m_interval (commits) (self).1 ((tGet contents (self).1).getD 0))).getD (0, 0)) (((if ((self).2).isNone = true then (some (answered, ((commits).length : Int))) else (m_interval (commits) (((self).2).getD ("" : Str)) ((tGet contents (((self).2).getD ("" : Str))).getD 0)))).getD (0, 0)))))))))
def r_Apart_shows (CA : Addr) : List D → D → Prop := fun ds d => ∃ (self : (Str × Option Str)) (commits : (List (List Str))) (answered : Int) (contents : (List (Str × Int))), (ApOk self.1 self.2 commits answered contents) ∧ ds = [(eAp CA) self, (eR false (eR true D.str)) commits, D.int answered, (eT Sum.inr D.int) contents] ∧ d = D.bl (m_Apart_shows self commits answered contents)
abbrev s15x3 : Stmt := clsS (topS 15) 3
abbrev N15x3 : List Str := ["self", "commits", "answered", "contents", "first", "last"]
theorem sc15x3 : FnScope N15x3 ["self", "commits", "answered", "contents"] (defScope s15x3) := ⟨rfl, rfl, rfl, by decide +kernel, rfl, by decide +kernel, by decide +kernel⟩
theorem d_Apart_shows (T : Txt K mg) (C_is_name : FnD P w K mg base 1 "is_name" ["thing"] (relP r_is_name)) (C_check_commits : FnD P w K mg base 3 "check_commits" ["commits", "answered", "contents"] (relP r_check_commits)) (C_interval : FnD P w K mg base 1 "interval" ["commits", "page", "number"] (relP r_interval)) (C_is_meeting : FnD P w K mg base 1 "is_meeting" ["one", "other"] (relP r_is_meeting)) (Y : Cl K mg CP CA)  {f : Addr} {fd : FuncData} (Fu : Fun K "shows" "Apart.shows" s15x3 f fd) : FnOk P w K mg base CX0 4 f fd ["self", "commits", "answered", "contents"] (spG (relP (r_Apart_shows CA))) := by
  refine fn_ok Fu sc15x3 (fun ds F W d W' h => by obtain ⟨⟨_, _, _, _, _, rfl, _⟩, _⟩ := h; rfl) (fun cdv A outer s H E hr ds W d W' vs F h hv => ?_)
  have nd_ := sc15x3.nd
  obtain ⟨⟨self, commits, answered, contents, hp_, rfl, rfl⟩, rfl⟩ := h
  cases hv with | @cons v_self _ _ _ h_self hv => ?_
  cases hv with | @cons v_commits _ _ _ h_commits hv => ?_
  cases hv with | @cons v_answered _ _ _ h_answered hv => ?_
  cases hv with | @cons v_contents _ _ _ h_contents hv => ?_
  cases hv
  have hl_commits := rep_len h_commits
  cases h_answered
  obtain ⟨hck, hn1, hn2⟩ := id hp_
  have h_lo := hck.lo
  have h_hi := hck.hi
  have h_len := hck.len
  have h_sz := hck.sz
  refine bl_expr (ev_call C_check_commits (hr.mono (by decide)) (ea_cons (ev_var (i := 1) rfl h_commits) (ea_cons (ev_var (i := 2) rfl (.int _)) (ea_cons (ev_var (i := 3) rfl h_contents) ea_nil))) (⟨(commits), (answered), (contents), (by exact hck), rfl, rfl⟩)) ?_
  refine bl_whenR (q := ((!(m_is_name (self).1)) || (!(tGet contents (self).1).isSome))) (f := D.bl) (x := false) (y := (if ((!((self).2).isNone) && ((!(m_is_name (((self).2).getD ("" : Str)))) || (!(tGet contents (((self).2).getD ("" : Str))).isSome))) = true then false else (if (decide ((some (self).1) = (self).2)) = true then ((m_interval (commits) (self).1 ((tGet contents (self).1).getD 0))).isNone else ((!((m_interval (commits) (self).1 ((tGet contents (self).1).getD 0))).isNone) && ((!((if ((self).2).isNone = true then (some (answered, ((commits).length : Int))) else (m_interval (commits) (((self).2).getD ("" : Str)) ((tGet contents (((self).2).getD ("" : Str))).getD 0)))).isNone) && (!(m_is_meeting (((m_interval (commits) (self).1 ((tGet contents (self).1).getD 0))).getD (0, 0)) (((if ((self).2).isNone = true then (some (answered, ((commits).length : Int))) else (m_interval (commits) (((self).2).getD ("" : Str)) ((tGet contents (((self).2).getD ("" : Str))).getD 0)))).getD (0, 0))))))))) (et_w (ew_or (et_not (et_val (ev_call C_is_name (hr.mono (by decide)) (ea_cons (ev_fld (ev_var (i := 0) rfl h_self) Y.a.cls Y.one rfl) ea_nil) (⟨(self).1, (by exact hn1), rfl, rfl⟩)))) (fun hb1 => (ew_or1 (et_tni keS hr (ev_fld (ev_var (i := 0) rfl h_self) Y.a.cls Y.one rfl) (ev_var (i := 3) rfl h_contents) (by with_unfolding_all rfl)))))) (fun hq2 => ?_) (fun hq2 => ?_)
  · exact bl_ret ev_bl ⟨rfl, rfl⟩
  · refine bl_whenR (q := ((!((self).2).isNone) && ((!(m_is_name (((self).2).getD ("" : Str)))) || (!(tGet contents (((self).2).getD ("" : Str))).isSome)))) (f := D.bl) (x := false) (y := (if (decide ((some (self).1) = (self).2)) = true then ((m_interval (commits) (self).1 ((tGet contents (self).1).getD 0))).isNone else ((!((m_interval (commits) (self).1 ((tGet contents (self).1).getD 0))).isNone) && ((!((if ((self).2).isNone = true then (some (answered, ((commits).length : Int))) else (m_interval (commits) (((self).2).getD ("" : Str)) ((tGet contents (((self).2).getD ("" : Str))).getD 0)))).isNone) && (!(m_is_meeting (((m_interval (commits) (self).1 ((tGet contents (self).1).getD 0))).getD (0, 0)) (((if ((self).2).isNone = true then (some (answered, ((commits).length : Int))) else (m_interval (commits) (((self).2).getD ("" : Str)) ((tGet contents (((self).2).getD ("" : Str))).getD 0)))).getD (0, 0)))))))) (et_w (ew_and (et_cm (ev_fld (ev_var (i := 0) rfl h_self) Y.a.cls Y.other rfl) ev_non (cm_isnotO (f := D.str) (x := (self).2) (fun _ => rfl))) (fun hb3 => (ew_and1 (et_w (ew_or (et_not (et_val (ev_call C_is_name (hr.mono (by decide)) (ea_cons (ev_is (d1 := D.str (((self).2).getD ("" : Str))) (ev_fld (ev_var (i := 0) rfl h_self) Y.a.cls Y.other rfl) (eO_get (by first | (have q_ := hb3; revert q_; cases hO_ : (self).2 <;> simp) | assumption))) ea_nil) (⟨(((self).2).getD ("" : Str)), (by exact nm_get hn2 (by assumption)), rfl, rfl⟩)))) (fun hb4 => (ew_or1 (et_tni keS hr (ev_is (d1 := D.str (((self).2).getD ("" : Str))) (ev_fld (ev_var (i := 0) rfl h_self) Y.a.cls Y.other rfl) (eO_get (by first | (have q_ := hb3; revert q_; cases hO_ : (self).2 <;> simp) | assumption))) (ev_var (i := 3) rfl h_contents) (by with_unfolding_all rfl)))))))))) (fun hq5 => ?_) (fun hq5 => ?_)
    · exact bl_ret ev_bl ⟨rfl, rfl⟩
    · refine bl_asg (i := 4) (ev_call C_interval (hr.mono (by decide)) (ea_cons (ev_var (i := 1) rfl h_commits) (ea_cons (ev_fld (ev_var (i := 0) rfl h_self) Y.a.cls Y.one rfl) (ea_cons (ev_tsub keS hr (ev_var (i := 3) rfl h_contents) (ev_fld (ev_var (i := 0) rfl h_self) Y.a.cls Y.one rfl) (oGet (by simp only [Bool.or_eq_false_iff, Bool.not_eq_false'] at hq2; exact hq2.2))) ea_nil))) (⟨(commits), (self).1, ((tGet contents (self).1).getD 0), (by refine ck_num hck ?_; simp only [Bool.or_eq_false_iff, Bool.not_eq_false'] at hq2; exact hq2.2), rfl, rfl⟩)) (fun v_first F_ e6 h_first => ?_)
      replace h_self := h_self.mono e6
      replace h_commits := h_commits.mono e6
      replace h_contents := h_contents.mono e6
      refine bl_asg (i := 5) (ev_if (f := (eO (eP D.int D.int))) (x := (some (answered, ((commits).length : Int)))) (y := (m_interval (commits) (((self).2).getD ("" : Str)) ((tGet contents (((self).2).getD ("" : Str))).getD 0))) (et_cm (ev_fld (ev_var (i := 0) rfl h_self) Y.a.cls Y.other rfl) ev_non (cm_isO (f := D.str) (x := (self).2) (fun _ => rfl))) (fun hi7 => (ev_is (d1 := (eO (eP D.int D.int)) (some (answered, ((commits).length : Int)))) (ev_is (d1 := (eP D.int D.int) (answered, ((commits).length : Int))) (ev_tup (ea_cons (ev_var (i := 2) rfl (.int _)) (ea_cons (ev_blt T.len cl_lenR (ea_cons (ev_var (i := 1) rfl h_commits) ea_nil) rfl) ea_nil)) (by simp)) rfl) rfl)) (fun hi8 => (ev_call C_interval (hr.mono (by decide)) (ea_cons (ev_var (i := 1) rfl h_commits) (ea_cons (ev_is (d1 := D.str (((self).2).getD ("" : Str))) (ev_fld (ev_var (i := 0) rfl h_self) Y.a.cls Y.other rfl) (eO_get (by first | (have q_ := hi8; revert q_; cases hO_ : (self).2 <;> simp) | assumption))) (ea_cons (ev_tsub keS hr (ev_var (i := 3) rfl h_contents) (ev_is (d1 := D.str (((self).2).getD ("" : Str))) (ev_fld (ev_var (i := 0) rfl h_self) Y.a.cls Y.other rfl) (eO_get (by first | (have q_ := hi8; revert q_; cases hO_ : (self).2 <;> simp) | assumption))) (oGet (by rw [hi8] at hq5; simp only [Bool.not_false, Bool.true_and, Bool.or_eq_false_iff, Bool.not_eq_false'] at hq5; exact hq5.2))) ea_nil))) (⟨(commits), (((self).2).getD ("" : Str)), ((tGet contents (((self).2).getD ("" : Str))).getD 0), (by refine ck_num hck ?_; rw [hi8] at hq5; simp only [Bool.not_false, Bool.true_and, Bool.or_eq_false_iff, Bool.not_eq_false'] at hq5; exact hq5.2), rfl, rfl⟩)))) (fun v_last F_ e9 h_last => ?_)
      replace h_self := h_self.mono e9
      replace h_commits := h_commits.mono e9
      replace h_contents := h_contents.mono e9
      replace h_first := h_first.mono e9
      refine bl_whenR (q := (decide ((some (self).1) = (self).2))) (f := D.bl) (x := ((m_interval (commits) (self).1 ((tGet contents (self).1).getD 0))).isNone) (y := ((!((m_interval (commits) (self).1 ((tGet contents (self).1).getD 0))).isNone) && ((!((if ((self).2).isNone = true then (some (answered, ((commits).length : Int))) else (m_interval (commits) (((self).2).getD ("" : Str)) ((tGet contents (((self).2).getD ("" : Str))).getD 0)))).isNone) && (!(m_is_meeting (((m_interval (commits) (self).1 ((tGet contents (self).1).getD 0))).getD (0, 0)) (((if ((self).2).isNone = true then (some (answered, ((commits).length : Int))) else (m_interval (commits) (((self).2).getD ("" : Str)) ((tGet contents (((self).2).getD ("" : Str))).getD 0)))).getD (0, 0))))))) (et_cm (ev_is (d1 := (eO D.str) (some (self).1)) (ev_fld (ev_var (i := 0) rfl h_self) Y.a.cls Y.one rfl) rfl) (ev_fld (ev_var (i := 0) rfl h_self) Y.a.cls Y.other rfl) (cm_eq (f := (eO D.str)) (x := (some (self).1)) (y := (self).2) hr (Lw.opt lw_str (fun _ => rfl) (fun _ => rfl)))) (fun hq10 => ?_) (fun hq10 => ?_)
      · exact bl_ret (ev_cm (ev_var (i := 4) rfl h_first) ev_non (cm_isO (f := (eP D.int D.int)) (x := (m_interval (commits) (self).1 ((tGet contents (self).1).getD 0))) (fun _ => rfl))) ⟨rfl, rfl⟩
      · exact bl_ret (ev_and (ev_cm (ev_var (i := 4) rfl h_first) ev_non (cm_isnotO (f := (eP D.int D.int)) (x := (m_interval (commits) (self).1 ((tGet contents (self).1).getD 0))) (fun _ => rfl))) (fun hb11 => (ev_and (ev_cm (ev_var (i := 5) rfl h_last) ev_non (cm_isnotO (f := (eP D.int D.int)) (x := (if ((self).2).isNone = true then (some (answered, ((commits).length : Int))) else (m_interval (commits) (((self).2).getD ("" : Str)) ((tGet contents (((self).2).getD ("" : Str))).getD 0)))) (fun _ => rfl))) (fun hb12 => (ev_bop1 (ev_not (ev_call C_is_meeting (hr.mono (by decide)) (ea_cons (ev_is (d1 := (eP D.int D.int) (((m_interval (commits) (self).1 ((tGet contents (self).1).getD 0))).getD (0, 0))) (ev_var (i := 4) rfl h_first) (eO_get (by first | (have q_ := hb11; revert q_; cases hO_ : (m_interval (commits) (self).1 ((tGet contents (self).1).getD 0)) <;> simp) | assumption))) (ea_cons (ev_is (d1 := (eP D.int D.int) (((if ((self).2).isNone = true then (some (answered, ((commits).length : Int))) else (m_interval (commits) (((self).2).getD ("" : Str)) ((tGet contents (((self).2).getD ("" : Str))).getD 0)))).getD (0, 0))) (ev_var (i := 5) rfl h_last) (eO_get (by first | (have q_ := hb12; revert q_; cases hO_ : (if ((self).2).isNone = true then (some (answered, ((commits).length : Int))) else (m_interval (commits) (((self).2).getD ("" : Str)) ((tGet contents (((self).2).getD ("" : Str))).getD 0))) <;> simp) | assumption))) ea_nil)) (⟨(((m_interval (commits) (self).1 ((tGet contents (self).1).getD 0))).getD (0, 0)), (((if ((self).2).isNone = true then (some (answered, ((commits).length : Int))) else (m_interval (commits) (((self).2).getD ("" : Str)) ((tGet contents (((self).2).getD ("" : Str))).getD 0)))).getD (0, 0)), rfl, rfl⟩)))))))) ⟨rfl, rfl⟩
end
end B
set_option Elab.async false
set_option linter.all false
set_option maxRecDepth 100000
set_option maxHeartbeats 1000000
namespace B
open PySem PySem.Spec PyProof.Rows L2 Z
def nrw (t : List (Str × Option (Int × Int))) : List (Str × (Int × Int)) := t.map fun x => (x.1, x.2.getD (0, 0))
theorem nrw_eq {t : List (Str × Option (Int × Int))} (h : ∀ x ∈ t, x.2.isNone = false) : eR false (eP D.str (eO (eP D.int D.int))) t = eR false (eP D.str (eP D.int D.int)) (nrw t) := by
  unfold eR nrw
  rw [List.map_map]
  refine congrArg _ (List.map_congr_left fun x hx => ?_)
  have h1 := h x hx
  obtain ⟨a, b⟩ := x
  cases b with
  | none => cases h1
  | some y => rfl
theorem lp_all {α R : Type} {c : α → Bool} {r : α → R} : ∀ {xs : List α} {u v : Unit}, lpR (fun (_ : Unit) x => ((if c x = true then .error (r x) else .ok ()) : Except R Unit)) xs u = .ok v → ∀ x ∈ xs, c x = false
  | [], _, _, _, x, hx => by cases hx
  | y :: ys, u, v, h, x, hx => by
    unfold lpR at h
    cases q : c y with
    | true => rw [q] at h; simp at h
    | false =>
      rw [q] at h
      rcases List.mem_cons.mp hx with e | e
      · rw [e]; exact q
      · exact lp_all h x e
theorem key_some {t : List (Str × Int)} {z : Str} (h : z ∈ sortS (t.map (·.1))) : (tGet t z).isSome = true := by
  rw [mem_sortS] at h
  induction t with
  | nil => cases h
  | cons q r ih =>
    unfold tGet
    split
    · rfl
    · rename_i n
      rw [List.map_cons] at h
      rcases List.mem_cons.mp h with e | e
      · exact absurd e.symm n
      · exact ih e
section
variable {P : Program} {w : World} {K : PySem.W.Frag} {mg : Str → Option Value} {base : Heap} {CP CA : Addr}

def m_judge_contents (commits : (List (List Str))) (answered : Int) (contents : (List (Str × Int))) : Vd := (match lpR (fun (sv5 : Unit) (x6 : (Str × (Option (Int × Int)))) => (((if ((x6).2).isNone = true then (.error (Vd.apart (x6).1 (some (x6).1))) else (.ok ()))) : Except Vd Unit)) (((sortS ((contents).map (·.1)))).map fun x1 => (x1, (m_interval (commits) (x1) ((tGet contents x1).getD 0)))) () with | .ok sv5 => (match lpR (fun (sv17 : Unit) (x18 : (Str × (Int × Int))) => (((if (!(m_is_meeting (x18).2 (answered, ((commits).length : Int)))) = true then (.error (Vd.apart (x18).1 none)) else (.ok ()))) : Except Vd Unit)) (nrw (((sortS ((contents).map (·.1)))).map fun x1 => (x1, (m_interval (commits) (x1) ((tGet contents x1).getD 0))))) () with | .ok sv17 => (match lpR (fun (sv29 : Unit) (x30 : (Int × (Str × (Int × Int)))) => (((match lpR (fun (sv45 : Unit) (x46 : (Str × (Int × Int))) => (((if (!(m_is_meeting ((x30).2).2 (x46).2)) = true then (.error (Vd.apart (x46).1 (some ((x30).2).1))) else (.ok ()))) : Except Vd Unit)) (cutL (nrw (((sortS ((contents).map (·.1)))).map fun x1 => (x1, (m_interval (commits) (x1) ((tGet contents x1).getD 0))))) none (some (x30).1)) () with | .ok sv45 => (.ok ()) | .error r_ => .error r_)) : Except Vd Unit)) (enumT (nrw (((sortS ((contents).map (·.1)))).map fun x1 => (x1, (m_interval (commits) (x1) ((tGet contents x1).getD 0)))))) () with | .ok sv29 => (Vd.pre (maxL ((((answered, ((commits).length : Int)) :: ((((nrw (((sortS ((contents).map (·.1)))).map fun x1 => (x1, (m_interval (commits) (x1) ((tGet contents x1).getD 0)))))).map fun x57 => (x57).2) ++ ([] : List (Int × Int))))).map fun x65 => (x65).1)) (minL ((((answered, ((commits).length : Int)) :: ((((nrw (((sortS ((contents).map (·.1)))).map fun x1 => (x1, (m_interval (commits) (x1) ((tGet contents x1).getD 0)))))).map fun x57 => (x57).2) ++ ([] : List (Int × Int))))).map fun x72 => (x72).2))) | .error r_ => r_) | .error r_ => r_) | .error r_ => r_)
def r_judge_contents (CP CA : Addr) : List D → D → Prop := fun ds d => ∃ (commits : (List (List Str))) (answered : Int) (contents : (List (Str × Int))), (Ck commits answered contents) ∧ ds = [(eR false (eR true D.str)) commits, D.int answered, (eT Sum.inr D.int) contents] ∧ d = (eVd CP CA) (m_judge_contents commits answered contents)
abbrev s17 : Stmt := topS 17
abbrev N17 : List Str := ["commits", "answered", "contents", "told", "page", "one", "at", "late", "other", "rows", "low", "high"]
theorem sc17 : FnScope N17 ["commits", "answered", "contents"] (defScope s17) := ⟨rfl, rfl, rfl, by decide +kernel, rfl, by decide +kernel, by decide +kernel⟩
theorem d_judge_contents (T : Txt K mg) (C_check_commits : FnD P w K mg base 3 "check_commits" ["commits", "answered", "contents"] (relP r_check_commits)) (C_interval : FnD P w K mg base 1 "interval" ["commits", "page", "number"] (relP r_interval)) (C_is_meeting : FnD P w K mg base 1 "is_meeting" ["one", "other"] (relP r_is_meeting)) (Y : Cl K mg CP CA) (InP : InD P w K mg base 1 "Prefix" CP ["self", "least", "greatest"] rel_initP) (InA : InD P w K mg base 1 "Apart" CA ["self", "one", "other"] rel_initA) {f : Addr} {fd : FuncData} (Fu : Fun K "judge_contents" "judge_contents" s17 f fd) : FnOk P w K mg base CX0 4 f fd ["commits", "answered", "contents"] (spG (relP (r_judge_contents CP CA))) := by
  refine fn_ok Fu sc17 (fun ds F W d W' h => by obtain ⟨⟨_, _, _, _, rfl, _⟩, _⟩ := h; rfl) (fun cdv A outer s H E hr ds W d W' vs F h hv => ?_)
  have nd_ := sc17.nd
  obtain ⟨⟨commits, answered, contents, hp_, rfl, rfl⟩, rfl⟩ := h
  cases hv with | @cons v_commits _ _ _ h_commits hv => ?_
  cases hv with | @cons v_answered _ _ _ h_answered hv => ?_
  cases hv with | @cons v_contents _ _ _ h_contents hv => ?_
  cases hv
  have hl_commits := rep_len h_commits
  cases h_answered
  have h_lo := hp_.lo
  have h_hi := hp_.hi
  have h_len := hp_.len
  have h_sz := hp_.sz
  have hsl : (sortS (contents.map (·.1))).length ≤ 8 := Nat.le_trans (sortS_len _) (by rw [List.length_map]; exact h_sz)
  refine bl_expr (ev_call C_check_commits (hr.mono (by decide)) (ea_cons (ev_var (i := 0) rfl h_commits) (ea_cons (ev_var (i := 1) rfl (.int _)) (ea_cons (ev_var (i := 2) rfl h_contents) ea_nil))) (⟨(commits), (answered), (contents), (by first | assumption | exact hp_.1 | omega), rfl, rfl⟩)) ?_
  refine bl_asgLc (i := 3) (lc_M (own := [("page", 4)]) (f := D.str) (g := (eP D.str (eO (eP D.int D.int)))) (fun x1 => (x1, (m_interval (commits) (x1) ((tGet contents x1).getD 0)))) (ei_row (ev_blt T.sorted (cl_sortedD (by omega) (by exact hp_.nd)) (ea_cons (ev_var (i := 2) rfl h_contents) ea_nil) rfl)) (by omega) (fun x1 hx2 v_ F1_ e_ r3 => by
      replace h_commits := h_commits.mono e_
      replace h_contents := h_contents.mono e_
      intro s_ H0_ C_ cl_ fp_
      cases r3
      refine tg_name (i := 4) ?_
      refine ⟨((wipe_set (by decide)).trans (wipe_wipe)), fun s_ H0_ C_ cl_ fp_ => ?_, fun ht_ s_ H0_ C_ cl_ fp_ => ?_⟩
      · exact ets_nil
      · exact (ev_is (d1 := (eP D.str (eO (eP D.int D.int))) (x1, (m_interval (commits) (x1) ((tGet contents x1).getD 0)))) (ev_tup (ea_cons (ev_var (i := 4) rfl (.str _)) (ea_cons (ev_call C_interval (hr.mono (by decide)) (ea_cons (ev_var (i := 0) rfl h_commits) (ea_cons (ev_var (i := 4) rfl (.str _)) (ea_cons (ev_tsub keS hr (ev_var (i := 2) rfl h_contents) (ev_var (i := 4) rfl (.str _)) (oGet (by exact key_some (by assumption)))) ea_nil))) (⟨(commits), (x1), ((tGet contents x1).getD 0), (by exact ck_num hp_ (key_some (by assumption))), rfl, rfl⟩)) ea_nil)) (by simp)) rfl))) (ok := blkOk_by (N := N17) (sc := defScope s17) (by decide +kernel)) (fun v_told F_ e4 h_told => ?_)
  have hl_told := rep_len h_told
  replace h_commits := h_commits.mono e4
  replace h_contents := h_contents.mono e4
  refine bl_forR (R := Vd) (xs := (((sortS ((contents).map (·.1)))).map fun x1 => (x1, (m_interval (commits) (x1) ((tGet contents x1).getD 0))))) (f := (eP D.str (eO (eP D.int D.int)))) (ei_row (ev_var (i := 3) rfl h_told)) (fun (sv5 : Unit) (x6 : (Str × (Option (Int × Int)))) => (((if ((x6).2).isNone = true then (.error (Vd.apart (x6).1 (some (x6).1))) else (.ok ()))) : Except Vd Unit)) () (fun (s_ : Unit) σ_ F_ W_ => ∃ (o_page : Option V) (o_one : Option V), σ_ = [some v_commits, some (.int answered), some v_contents, some v_told, o_page, o_one, none, none, none, none, none, none] ∧ W' = W_) (fun F_ e_ => ?_) (fun x6 hx8 sv5 σ_ F_ W_ e_ J_ v_ F2_ e2_ r9 => ?_) (fun sv5 hl_ σ_ F_ W_ e_ J_ => ?_)
  · replace h_commits := h_commits.mono e_
    replace h_contents := h_contents.mono e_
    replace h_told := h_told.mono e_
    exact ⟨_, _, rfl, rfl⟩
  · replace h_commits := h_commits.mono e_
    replace h_contents := h_contents.mono e_
    replace h_told := h_told.mono e_
    obtain ⟨o_page, o_one, rfl, rfl⟩ := J_
    replace h_commits := h_commits.mono e2_
    replace h_contents := h_contents.mono e2_
    replace h_told := h_told.mono e2_
    refine tg_tup (ds := [D.str ((x6).1), (eO (eP D.int D.int)) ((x6).2)]) r9 (fun vs14 rr15 => ?_)
    cases rr15 with | @cons v_page _ _ _ h_page rr15 => ?_
    cases rr15 with | @cons v_one _ _ _ h_one rr15 => ?_
    cases rr15
    refine tgs_cons ?_
    cases h_page
    refine tg_name (i := 4) ?_
    refine tgs_cons ?_
    refine tg_name (i := 5) ?_
    refine tgs_nil ?_
    refine bl_when (q := ((x6).2).isNone) (et_cm (ev_var (i := 5) rfl h_one) ev_non (cm_isO (f := (eP D.int D.int)) (x := (x6).2) (fun _ => rfl))) (fun hq16 => ?_) (fun hq16 => ?_)
    · exact bl_ret (ev_is (d1 := eVd CP CA (Vd.apart (x6).1 (some (x6).1))) (ev_make InA (hr.mono (by decide)) (ea_cons (ev_var (i := 4) rfl (.str _)) (ea_cons (ev_is (d1 := (eO D.str) (some (x6).1)) (ev_var (i := 4) rfl (.str _)) rfl) ea_nil)) ⟨(x6).1, (some (x6).1), rfl, rfl⟩) rfl) ⟨(Vd.apart (x6).1 (some (x6).1)), (by simp only [hq16, Bool.false_eq_true, if_true, if_false]), fun hl_ => by show _ = _ ∧ _; (try unfold m_judge_contents); rw [hl_]; exact ⟨rfl, rfl⟩⟩
    · exact bl_nil ⟨(), (by simp only [hq16, Bool.false_eq_true, if_true, if_false]), ⟨_, _, rfl, rfl⟩⟩
  · replace h_commits := h_commits.mono e_
    replace h_contents := h_contents.mono e_
    replace h_told := h_told.mono e_
    obtain ⟨o_page, o_one, rfl, rfl⟩ := J_
    (try unfold m_judge_contents)
    rw [hl_]
    have hall_ := lp_all hl_
    rw [nrw_eq hall_] at h_told
    have hl_told := rep_len h_told
    refine bl_forR (R := Vd) (xs := (nrw (((sortS ((contents).map (·.1)))).map fun x1 => (x1, (m_interval (commits) (x1) ((tGet contents x1).getD 0)))))) (f := (eP D.str (eP D.int D.int))) (ei_row (ev_var (i := 3) rfl h_told)) (fun (sv17 : Unit) (x18 : (Str × (Int × Int))) => (((if (!(m_is_meeting (x18).2 (answered, ((commits).length : Int)))) = true then (.error (Vd.apart (x18).1 none)) else (.ok ()))) : Except Vd Unit)) () (fun (s_ : Unit) σ_ F_ W_ => ∃ (o_page : Option V) (o_one : Option V), σ_ = [some v_commits, some (.int answered), some v_contents, some v_told, o_page, o_one, none, none, none, none, none, none] ∧ W' = W_) (fun F_ e_ => ?_) (fun x18 hx20 sv17 σ_ F_ W_ e_ J_ v_ F2_ e2_ r21 => ?_) (fun sv17 hl_ σ_ F_ W_ e_ J_ => ?_)
    · replace h_commits := h_commits.mono e_
      replace h_contents := h_contents.mono e_
      replace h_told := h_told.mono e_
      exact ⟨_, _, rfl, rfl⟩
    · replace h_commits := h_commits.mono e_
      replace h_contents := h_contents.mono e_
      replace h_told := h_told.mono e_
      obtain ⟨o_page, o_one, rfl, rfl⟩ := J_
      replace h_commits := h_commits.mono e2_
      replace h_contents := h_contents.mono e2_
      replace h_told := h_told.mono e2_
      refine tg_tup (ds := [D.str ((x18).1), (eP D.int D.int) ((x18).2)]) r21 (fun vs26 rr27 => ?_)
      cases rr27 with | @cons v_page _ _ _ h_page rr27 => ?_
      cases rr27 with | @cons v_one _ _ _ h_one rr27 => ?_
      cases rr27
      refine tgs_cons ?_
      cases h_page
      refine tg_name (i := 4) ?_
      refine tgs_cons ?_
      refine tg_name (i := 5) ?_
      refine tgs_nil ?_
      refine bl_when (q := (!(m_is_meeting (x18).2 (answered, ((commits).length : Int))))) (et_not (et_val (ev_call C_is_meeting (hr.mono (by decide)) (ea_cons (ev_var (i := 5) rfl h_one) (ea_cons (ev_is (d1 := (eP D.int D.int) (answered, ((commits).length : Int))) (ev_tup (ea_cons (ev_var (i := 1) rfl (.int _)) (ea_cons (ev_blt T.len cl_lenR (ea_cons (ev_var (i := 0) rfl h_commits) ea_nil) rfl) ea_nil)) (by simp)) rfl) ea_nil)) (⟨(x18).2, (answered, ((commits).length : Int)), rfl, rfl⟩)))) (fun hq28 => ?_) (fun hq28 => ?_)
      · exact bl_ret (ev_is (d1 := eVd CP CA (Vd.apart (x18).1 none)) (ev_make InA (hr.mono (by decide)) (ea_cons (ev_var (i := 4) rfl (.str _)) (ea_cons (ev_is (d1 := (eO D.str) none) ev_non rfl) ea_nil)) ⟨(x18).1, none, rfl, rfl⟩) rfl) ⟨(Vd.apart (x18).1 none), (by simp only [hq28, Bool.false_eq_true, if_true, if_false]), fun hl_ => by show _ = _ ∧ _; (try unfold m_judge_contents); rw [hl_]; exact ⟨rfl, rfl⟩⟩
      · exact bl_nil ⟨(), (by simp only [hq28, Bool.false_eq_true, if_true, if_false]), ⟨_, _, rfl, rfl⟩⟩
    · replace h_commits := h_commits.mono e_
      replace h_contents := h_contents.mono e_
      replace h_told := h_told.mono e_
      obtain ⟨o_page, o_one, rfl, rfl⟩ := J_
      (try unfold m_judge_contents)
      rw [hl_]
      refine bl_forR (R := Vd) (xs := (enumT (nrw (((sortS ((contents).map (·.1)))).map fun x1 => (x1, (m_interval (commits) (x1) ((tGet contents x1).getD 0))))))) (f := (eP D.int (eP D.str (eP D.int D.int)))) (ei_enumR T.enumerate (ev_var (i := 3) rfl h_told)) (fun (sv29 : Unit) (x30 : (Int × (Str × (Int × Int)))) => (((match lpR (fun (sv45 : Unit) (x46 : (Str × (Int × Int))) => (((if (!(m_is_meeting ((x30).2).2 (x46).2)) = true then (.error (Vd.apart (x46).1 (some ((x30).2).1))) else (.ok ()))) : Except Vd Unit)) (cutL (nrw (((sortS ((contents).map (·.1)))).map fun x1 => (x1, (m_interval (commits) (x1) ((tGet contents x1).getD 0))))) none (some (x30).1)) () with | .ok sv45 => (.ok ()) | .error r_ => .error r_)) : Except Vd Unit)) () (fun (s_ : Unit) σ_ F_ W_ => ∃ (o_page : Option V) (o_one : Option V) (o_at : Option V) (o_late : Option V) (o_other : Option V), σ_ = [some v_commits, some (.int answered), some v_contents, some v_told, o_page, o_one, o_at, o_late, o_other, none, none, none] ∧ W' = W_) (fun F_ e_ => ?_) (fun x30 hx32 sv29 σ_ F_ W_ e_ J_ v_ F2_ e2_ r33 => ?_) (fun sv29 hl_ σ_ F_ W_ e_ J_ => ?_)
      · replace h_commits := h_commits.mono e_
        replace h_contents := h_contents.mono e_
        replace h_told := h_told.mono e_
        exact ⟨_, _, _, _, _, rfl, rfl⟩
      · replace h_commits := h_commits.mono e_
        replace h_contents := h_contents.mono e_
        replace h_told := h_told.mono e_
        obtain ⟨o_page, o_one, o_at, o_late, o_other, rfl, rfl⟩ := J_
        replace h_commits := h_commits.mono e2_
        replace h_contents := h_contents.mono e2_
        replace h_told := h_told.mono e2_
        have hx32m := enumT_mem hx32
        refine tg_tup (ds := [D.int ((x30).1), (eP D.str (eP D.int D.int)) ((x30).2)]) r33 (fun vs39 rr40 => ?_)
        cases rr40 with | @cons v_at _ _ _ h_at rr40 => ?_
        cases rr40 with | @cons _ _ _ _ r38 rr40 => ?_
        cases rr40
        refine tgs_cons ?_
        cases h_at
        refine tg_name (i := 6) ?_
        refine tgs_cons ?_
        refine tg_tup (ds := [D.str (((x30).2).1), (eP D.int D.int) (((x30).2).2)]) r38 (fun vs43 rr44 => ?_)
        cases rr44 with | @cons v_page _ _ _ h_page rr44 => ?_
        cases rr44 with | @cons v_one _ _ _ h_one rr44 => ?_
        cases rr44
        refine tgs_cons ?_
        cases h_page
        refine tg_name (i := 4) ?_
        refine tgs_cons ?_
        refine tg_name (i := 5) ?_
        refine tgs_nil ?_
        refine tgs_nil ?_
        refine bl_forR (R := Vd) (xs := (cutL (nrw (((sortS ((contents).map (·.1)))).map fun x1 => (x1, (m_interval (commits) (x1) ((tGet contents x1).getD 0))))) none (some (x30).1))) (f := (eP D.str (eP D.int D.int))) (ei_row (ev_sl (l := none) (u := (some (x30).1)) (ev_var (i := 3) rfl h_told) eo_none (eo_some (ev_var (i := 6) rfl (.int _))))) (fun (sv45 : Unit) (x46 : (Str × (Int × Int))) => (((if (!(m_is_meeting ((x30).2).2 (x46).2)) = true then (.error (Vd.apart (x46).1 (some ((x30).2).1))) else (.ok ()))) : Except Vd Unit)) () (fun (s_ : Unit) σ_ F_ W_ => ∃ (o_late : Option V) (o_other : Option V), σ_ = [some v_commits, some (.int answered), some v_contents, some v_told, some (.str ((x30).2).1), some v_one, some (.int (x30).1), o_late, o_other, none, none, none] ∧ W' = W_) (fun F_ e_ => ?_) (fun x46 hx48 sv45 σ_ F_ W_ e_ J_ v_ F2_ e2_ r49 => ?_) (fun sv45 hl_ σ_ F_ W_ e_ J_ => ?_)
        · replace h_commits := h_commits.mono e_
          replace h_contents := h_contents.mono e_
          replace h_told := h_told.mono e_
          replace h_one := h_one.mono e_
          exact ⟨_, _, rfl, rfl⟩
        · replace h_commits := h_commits.mono e_
          replace h_contents := h_contents.mono e_
          replace h_told := h_told.mono e_
          replace h_one := h_one.mono e_
          obtain ⟨o_late, o_other, rfl, rfl⟩ := J_
          replace h_commits := h_commits.mono e2_
          replace h_contents := h_contents.mono e2_
          replace h_told := h_told.mono e2_
          replace h_one := h_one.mono e2_
          refine tg_tup (ds := [D.str ((x46).1), (eP D.int D.int) ((x46).2)]) r49 (fun vs54 rr55 => ?_)
          cases rr55 with | @cons v_late _ _ _ h_late rr55 => ?_
          cases rr55 with | @cons v_other _ _ _ h_other rr55 => ?_
          cases rr55
          refine tgs_cons ?_
          cases h_late
          refine tg_name (i := 7) ?_
          refine tgs_cons ?_
          refine tg_name (i := 8) ?_
          refine tgs_nil ?_
          refine bl_when (q := (!(m_is_meeting ((x30).2).2 (x46).2))) (et_not (et_val (ev_call C_is_meeting (hr.mono (by decide)) (ea_cons (ev_var (i := 5) rfl h_one) (ea_cons (ev_var (i := 8) rfl h_other) ea_nil)) (⟨((x30).2).2, (x46).2, rfl, rfl⟩)))) (fun hq56 => ?_) (fun hq56 => ?_)
          · exact bl_ret (ev_is (d1 := eVd CP CA (Vd.apart (x46).1 (some ((x30).2).1))) (ev_make InA (hr.mono (by decide)) (ea_cons (ev_var (i := 7) rfl (.str _)) (ea_cons (ev_is (d1 := (eO D.str) (some ((x30).2).1)) (ev_var (i := 4) rfl (.str _)) rfl) ea_nil)) ⟨(x46).1, (some ((x30).2).1), rfl, rfl⟩) rfl) ⟨(Vd.apart (x46).1 (some ((x30).2).1)), (by simp only [hq56, Bool.false_eq_true, if_true, if_false]), fun hl_ => ⟨(Vd.apart (x46).1 (some ((x30).2).1)), (by simp only [hl_]), fun hl_ => by show _ = _ ∧ _; (try unfold m_judge_contents); rw [hl_]; exact ⟨rfl, rfl⟩⟩⟩
          · exact bl_nil ⟨(), (by simp only [hq56, Bool.false_eq_true, if_true, if_false]), ⟨_, _, rfl, rfl⟩⟩
        · replace h_commits := h_commits.mono e_
          replace h_contents := h_contents.mono e_
          replace h_told := h_told.mono e_
          replace h_one := h_one.mono e_
          obtain ⟨o_late, o_other, rfl, rfl⟩ := J_
          exact bl_nil ⟨(), (by simp only [hl_, Bool.false_eq_true, if_true, if_false]), ⟨_, _, _, _, _, rfl, rfl⟩⟩
      · replace h_commits := h_commits.mono e_
        replace h_contents := h_contents.mono e_
        replace h_told := h_told.mono e_
        obtain ⟨o_page, o_one, o_at, o_late, o_other, rfl, rfl⟩ := J_
        (try unfold m_judge_contents)
        rw [hl_]
        refine bl_asg (i := 9) (ev_lstR ((answered, ((commits).length : Int)) :: ((((nrw (((sortS ((contents).map (·.1)))).map fun x1 => (x1, (m_interval (commits) (x1) ((tGet contents x1).getD 0)))))).map fun x57 => (x57).2) ++ ([] : List (Int × Int)))) (ea_consR (f := (eP D.int D.int)) (x := (answered, ((commits).length : Int))) (ev_is (d1 := (eP D.int D.int) (answered, ((commits).length : Int))) (ev_tup (ea_cons (ev_var (i := 1) rfl (.int _)) (ea_cons (ev_blt T.len cl_lenR (ea_cons (ev_var (i := 0) rfl h_commits) ea_nil) rfl) ea_nil)) (by simp)) rfl) (ea_starR (ev_ofLc (lc_M (own := [("page", 4), ("one", 5)]) (f := (eP D.str (eP D.int D.int))) (g := (eP D.int D.int)) (fun x57 => (x57).2) (ei_row (ev_var (i := 3) rfl h_told)) (by first | exact rep_len h_told | assumption | omega | (simp only [List.length_map, enumT_len, rg_len]; omega) | (simp; done) | (simp; omega)) (fun x57 hx58 v_ F1_ e_ r59 => by
      replace h_commits := h_commits.mono e_
      replace h_contents := h_contents.mono e_
      replace h_told := h_told.mono e_
      intro s_ H0_ C_ cl_ fp_
      refine tg_tup (ds := [D.str ((x57).1), (eP D.int D.int) ((x57).2)]) r59 (fun vs62 rr63 => ?_)
      cases rr63 with | @cons v_page _ _ _ h_page rr63 => ?_
      cases rr63 with | @cons v_one _ _ _ h_one rr63 => ?_
      cases rr63
      refine tgs_cons ?_
      cases h_page
      refine tg_name (i := 4) ?_
      refine tgs_cons ?_
      refine tg_name (i := 5) ?_
      refine tgs_nil ?_
      refine ⟨((wipe_set (by decide)).trans ((wipe_set (by decide)).trans (wipe_wipe))), fun s_ H0_ C_ cl_ fp_ => ?_, fun ht_ s_ H0_ C_ cl_ fp_ => ?_⟩
      · exact ets_nil
      · exact (ev_var (i := 5) rfl h_one))) (ok := blkOk_by (N := N17) (sc := defScope s17) (by decide +kernel))) (ea_nilR (f := (eP D.int D.int))))) (by simp only [List.length_cons, List.length_append, List.length_map, List.length_nil]; unfold nrw; simp only [List.length_map]; omega)) (fun v_rows F_ e64 h_rows => ?_)
        have hl_rows := rep_len h_rows
        replace h_commits := h_commits.mono e64
        replace h_contents := h_contents.mono e64
        replace h_told := h_told.mono e64
        exact bl_ret (ev_is (d1 := eVd CP CA (Vd.pre (maxL ((((answered, ((commits).length : Int)) :: ((((nrw (((sortS ((contents).map (·.1)))).map fun x1 => (x1, (m_interval (commits) (x1) ((tGet contents x1).getD 0)))))).map fun x57 => (x57).2) ++ ([] : List (Int × Int))))).map fun x65 => (x65).1)) (minL ((((answered, ((commits).length : Int)) :: ((((nrw (((sortS ((contents).map (·.1)))).map fun x1 => (x1, (m_interval (commits) (x1) ((tGet contents x1).getD 0)))))).map fun x57 => (x57).2) ++ ([] : List (Int × Int))))).map fun x72 => (x72).2)))) (ev_make InP (hr.mono (by decide)) (ea_cons (ev_blt T.max (cl_max (by simp)) (ea_cons (ev_ofLc (lc_M (own := [("low", 10), ("high", 11)]) (f := (eP D.int D.int)) (g := D.int) (fun x65 => (x65).1) (ei_row (ev_var (i := 9) rfl h_rows)) (by first | exact rep_len h_rows | assumption | omega | (simp only [List.length_map, enumT_len, rg_len]; omega) | (simp; done) | (simp; omega)) (fun x65 hx66 v_ F1_ e_ r67 => by
      replace h_commits := h_commits.mono e_
      replace h_contents := h_contents.mono e_
      replace h_told := h_told.mono e_
      replace h_rows := h_rows.mono e_
      intro s_ H0_ C_ cl_ fp_
      refine tg_tup (ds := [D.int ((x65).1), D.int ((x65).2)]) r67 (fun vs70 rr71 => ?_)
      cases rr71 with | @cons v_low _ _ _ h_low rr71 => ?_
      cases rr71 with | @cons v_high _ _ _ h_high rr71 => ?_
      cases rr71
      refine tgs_cons ?_
      cases h_low
      refine tg_name (i := 10) ?_
      refine tgs_cons ?_
      cases h_high
      refine tg_name (i := 11) ?_
      refine tgs_nil ?_
      refine ⟨((wipe_set (by decide)).trans ((wipe_set (by decide)).trans (wipe_wipe))), fun s_ H0_ C_ cl_ fp_ => ?_, fun ht_ s_ H0_ C_ cl_ fp_ => ?_⟩
      · exact ets_nil
      · exact (ev_var (i := 10) rfl (.int _)))) (ok := blkOk_by (N := N17) (sc := defScope s17) (by decide +kernel))) ea_nil) rfl) (ea_cons (ev_blt T.min (cl_min (by simp)) (ea_cons (ev_ofLc (lc_M (own := [("low", 10), ("high", 11)]) (f := (eP D.int D.int)) (g := D.int) (fun x72 => (x72).2) (ei_row (ev_var (i := 9) rfl h_rows)) (by first | exact rep_len h_rows | assumption | omega | (simp only [List.length_map, enumT_len, rg_len]; omega) | (simp; done) | (simp; omega)) (fun x72 hx73 v_ F1_ e_ r74 => by
      replace h_commits := h_commits.mono e_
      replace h_contents := h_contents.mono e_
      replace h_told := h_told.mono e_
      replace h_rows := h_rows.mono e_
      intro s_ H0_ C_ cl_ fp_
      refine tg_tup (ds := [D.int ((x72).1), D.int ((x72).2)]) r74 (fun vs77 rr78 => ?_)
      cases rr78 with | @cons v_low _ _ _ h_low rr78 => ?_
      cases rr78 with | @cons v_high _ _ _ h_high rr78 => ?_
      cases rr78
      refine tgs_cons ?_
      cases h_low
      refine tg_name (i := 10) ?_
      refine tgs_cons ?_
      cases h_high
      refine tg_name (i := 11) ?_
      refine tgs_nil ?_
      refine ⟨((wipe_set (by decide)).trans ((wipe_set (by decide)).trans (wipe_wipe))), fun s_ H0_ C_ cl_ fp_ => ?_, fun ht_ s_ H0_ C_ cl_ fp_ => ?_⟩
      · exact ets_nil
      · exact (ev_var (i := 11) rfl (.int _)))) (ok := blkOk_by (N := N17) (sc := defScope s17) (by decide +kernel))) ea_nil) rfl) ea_nil)) ⟨(maxL ((((answered, ((commits).length : Int)) :: ((((nrw (((sortS ((contents).map (·.1)))).map fun x1 => (x1, (m_interval (commits) (x1) ((tGet contents x1).getD 0)))))).map fun x57 => (x57).2) ++ ([] : List (Int × Int))))).map fun x65 => (x65).1)), (minL ((((answered, ((commits).length : Int)) :: ((((nrw (((sortS ((contents).map (·.1)))).map fun x1 => (x1, (m_interval (commits) (x1) ((tGet contents x1).getD 0)))))).map fun x57 => (x57).2) ++ ([] : List (Int × Int))))).map fun x72 => (x72).2)), rfl, rfl⟩) rfl) ⟨rfl, rfl⟩
structure Me (P : Program) (w : World) (K : PySem.W.Frag) (mg : Str → Option Value) (base : Heap) (CP CA : Addr) : Prop where
  ep : MeD P w K mg base 1 CP "__eq__" ["self", "other"] (relP (r_Prefix_eq CP CA))
  ea : MeD P w K mg base 1 CA "__eq__" ["self", "other"] (relP (r_Apart_eq CP CA))
  bp : MeD P w K mg base 1 CP "__bool__" ["self"] (relP (r_Prefix_bool CP))
  ba : MeD P w K mg base 1 CA "__bool__" ["self"] (relP (r_Apart_bool CA))
section
variable {X : Cx} {σ : L2.St} {F W W1 W2 : Hp} {e a b c : Expr} {p pos apos : Pos} {u v : Vd}
theorem cm_eqVd (Y : Cl X.K X.mg CP CA) (M : Me X.prog X.w X.K X.mg X.base CP CA) (hr : Room 1 X.A) : CmpR X .Eq F W (eVd CP CA u) (eVd CP CA v) (decide (u = v)) := by
  cases u with
  | pre a1 a2 => cases v with
    | pre b1 b2 => exact cm_eqO (C := CP) (C2 := CP) Y.p M.ep hr (fun _ _ => ⟨⟨(a1, a2), .pre b1 b2, rfl, rfl⟩, rfl⟩) Y.npp
    | apart b1 b2 => exact cm_eqO (C := CP) (C2 := CA) Y.p M.ep hr (fun _ _ => ⟨⟨(a1, a2), .apart b1 b2, rfl, rfl⟩, rfl⟩) Y.npa
  | apart a1 a2 => cases v with
    | pre b1 b2 => exact cm_eqO (C := CA) (C2 := CP) Y.a M.ea hr (fun _ _ => ⟨⟨(a1, a2), .pre b1 b2, rfl, rfl⟩, rfl⟩) Y.nap
    | apart b1 b2 => exact cm_eqO (C := CA) (C2 := CA) Y.a M.ea hr (fun _ _ => ⟨⟨(a1, a2), .apart b1 b2, rfl, rfl⟩, rfl⟩) Y.naa
theorem cm_neVd (Y : Cl X.K X.mg CP CA) (M : Me X.prog X.w X.K X.mg X.base CP CA) (hr : Room 2 X.A) : CmpR X .NotEq F W (eVd CP CA u) (eVd CP CA v) (!decide (u = v)) := by
  cases u with
  | pre a1 a2 => cases v with
    | pre b1 b2 => exact cm_neO (C := CP) (C2 := CP) Y.p M.ep hr (fun _ _ => ⟨⟨(a1, a2), .pre b1 b2, rfl, rfl⟩, rfl⟩) Y.npp
    | apart b1 b2 => exact cm_neO (C := CP) (C2 := CA) Y.p M.ep hr (fun _ _ => ⟨⟨(a1, a2), .apart b1 b2, rfl, rfl⟩, rfl⟩) Y.npa
  | apart a1 a2 => cases v with
    | pre b1 b2 => exact cm_neO (C := CA) (C2 := CP) Y.a M.ea hr (fun _ _ => ⟨⟨(a1, a2), .pre b1 b2, rfl, rfl⟩, rfl⟩) Y.nap
    | apart b1 b2 => exact cm_neO (C := CA) (C2 := CA) Y.a M.ea hr (fun _ _ => ⟨⟨(a1, a2), .apart b1 b2, rfl, rfl⟩, rfl⟩) Y.naa
theorem ev_boolVd (M : Me X.prog X.w X.K X.mg X.base CP CA) (hm : X.mg "bool" = none) (h : EvS X e σ F W (eVd CP CA v) W1) (hr : Room 3 X.A) (hg : Gl X "bool" := by rfl)
    (he : starEach [e] X.env = (false, eval e X.env) :: starEach [] X.env := by rfl) : EvS X (.Call (.Name "bool" p) [e] [] pos) σ F W (.bl v.isPre) W1 := by
  cases v with
  | pre x y => exact ev_boolO (C := CP) hm (ea_cons h ea_nil he) M.bp hr (fun _ _ => ⟨⟨(x, y), rfl, rfl⟩, rfl⟩) (by decide +kernel) hg he
  | apart x y => exact ev_boolO (C := CA) hm (ea_cons h ea_nil he) M.ba hr (fun _ _ => ⟨⟨(x, y), rfl, rfl⟩, rfl⟩) (by decide +kernel) hg he
theorem et_Vd (M : Me X.prog X.w X.K X.mg X.base CP CA) (h : EvS X e σ F W (eVd CP CA v) W1) (hr : Room 1 X.A)
    (he : ∀ whole, isTrue e X.env whole = (do let v ← whole; standAt e.pos; holding [v] (truthy v)) := by intro _; rfl) : EvT X e σ F W v.isPre W1 := by
  cases v with
  | pre x y => exact et_obj (C := CP) h M.bp hr (fun _ _ => ⟨⟨(x, y), rfl, rfl⟩, rfl⟩) he
  | apart x y => exact et_obj (C := CA) h M.ba hr (fun _ _ => ⟨⟨(x, y), rfl, rfl⟩, rfl⟩) he
end
def m_Prefix_shows (self : (Int × Int)) (commits : (List (List Str))) (answered : Int) (contents : (List (Str × Int))) : Bool := (decide ((m_judge_contents (commits) (answered) (contents)) = (Vd.pre (self).1 (self).2)))
def r_Prefix_shows (CP : Addr) : List D → D → Prop := fun ds d => ∃ (self : (Int × Int)) (commits : (List (List Str))) (answered : Int) (contents : (List (Str × Int))), (Ck commits answered contents) ∧ ds = [(ePr CP) self, (eR false (eR true D.str)) commits, D.int answered, (eT Sum.inr D.int) contents] ∧ d = D.bl (m_Prefix_shows self commits answered contents)
abbrev s14x3 : Stmt := clsS (topS 14) 3
abbrev N14x3 : List Str := ["self", "commits", "answered", "contents"]
theorem sc14x3 : FnScope N14x3 ["self", "commits", "answered", "contents"] (defScope s14x3) := ⟨rfl, rfl, rfl, by decide +kernel, rfl, by decide +kernel, by decide +kernel⟩
theorem d_Prefix_shows (T : Txt K mg) (C_judge_contents : FnD P w K mg base 4 "judge_contents" ["commits", "answered", "contents"] (relP (r_judge_contents CP CA))) (Y : Cl K mg CP CA)  (Mq : Me P w K mg base CP CA)  {f : Addr} {fd : FuncData} (Fu : Fun K "shows" "Prefix.shows" s14x3 f fd) : FnOk P w K mg base CX0 5 f fd ["self", "commits", "answered", "contents"] (spG (relP (r_Prefix_shows CP))) := by
  refine fn_ok Fu sc14x3 (fun ds F W d W' h => by obtain ⟨⟨_, _, _, _, _, rfl, _⟩, _⟩ := h; rfl) (fun cdv A outer s H E hr ds W d W' vs F h hv => ?_)
  have nd_ := sc14x3.nd
  obtain ⟨⟨self, commits, answered, contents, hp_, rfl, rfl⟩, rfl⟩ := h
  cases hv with | @cons v_self _ _ _ h_self hv => ?_
  cases hv with | @cons v_commits _ _ _ h_commits hv => ?_
  cases hv with | @cons v_answered _ _ _ h_answered hv => ?_
  cases hv with | @cons v_contents _ _ _ h_contents hv => ?_
  cases hv
  have hl_commits := rep_len h_commits
  cases h_answered
  exact bl_ret (ev_cm (ev_call C_judge_contents (hr.mono (by decide)) (ea_cons (ev_var (i := 1) rfl h_commits) (ea_cons (ev_var (i := 2) rfl (.int _)) (ea_cons (ev_var (i := 3) rfl h_contents) ea_nil))) (⟨(commits), (answered), (contents), (by first | assumption | exact hp_.1 | omega), rfl, rfl⟩)) (ev_is (d1 := eVd CP CA (Vd.pre (self).1 (self).2)) (ev_var (i := 0) rfl h_self) rfl) (cm_eqVd (u := (m_judge_contents (commits) (answered) (contents))) (v := (Vd.pre (self).1 (self).2)) Y Mq (hr.mono (by decide)))) ⟨rfl, rfl⟩
end
end B
set_option Elab.async false
set_option linter.all false
set_option maxRecDepth 100000
set_option maxHeartbeats 1000000
namespace B
open PySem PySem.Spec PyProof.Rows L2 Z
def eZ (K : PySem.W.Frag) (xs : List Int) : D := .fz K (xs.map D.int)
section
variable {X : Cx} {F W W1 W2 : Hp} {σ : L2.St} {a b : Expr} {pos : Pos} {xs : List Int} {i : Int} {k : Nat}
theorem cl_lenZR : CalR X (.builtin "len") F W [eZ X.K xs] (.int xs.length) := (cl_lenZ (ds := xs.map D.int)).is (by rw [List.length_map])
theorem ev_ixZR (ha : EvS X a σ F W (eZ X.K xs) W1) (hb : EvS X b σ F W1 (.int i) W2) (h : -(xs.length : Int) ≤ i ∧ i < xs.length) (hs : ∀ v i, subscripted b false v i = operate [v, i] (getItem v i) := by intro _ _; rfl) : EvS X (.Subscript a b pos) σ F W (.int (ixI 0 xs i)) W2 :=
  ev_ixZ ha hb (atI_map (f := D.int) (ixI_at h)) hs
theorem cm_neZ (hr : Room k X.A) : CmpR X .NotEq F W (eZ X.K xs) (eR false D.int []) (!decide (xs = [])) := CmpR.is (k := !(eR false D.int xs).eqv (eR false D.int [])) ⟨_, op_neP hr, fun v1 v2 F1 H1 _ r1 r2 w Q k => ⟨_, _, r1.fz_dp w ((lw_int.row (t := false)).pl xs), r2.dp w rfl, D.pl_plain _ ((lw_int.row (t := false)).pl xs), D.pl_plain (eR false D.int []) rfl, Nat.le_trans ((lw_int.row (t := false)).dep xs) (by decide), k _ F1 H1 (Go.refl w) (.bl _)⟩⟩ (congrArg not ((lw_int.row (t := false)).eq xs []))
end
section
variable {P : Program} {w : World} {K : PySem.W.Frag} {mg : Str → Option Value} {base : Heap}

def m__law_number (script : (List Int)) (index : Int) : Int := (if (decide ((0 : Int) < (((rg 0 (((if (!decide (script = [])) = true then ((ixI 0 script (index % ((script).length : Int))), (index / ((script).length : Int))) else ((12345 : Int), (0 : Int)))).2 % (60 : Int)))).foldl (fun (sv11 : Int) (x12 : Int) => ((sv11 / (1009 : Int)))) ((if (decide (((if (!decide (script = [])) = true then ((ixI 0 script (index % ((script).length : Int))), (index / ((script).length : Int))) else ((12345 : Int), (0 : Int)))).2 < (60 : Int))) = true then (((if (!decide (script = [])) = true then ((ixI 0 script (index % ((script).length : Int))), (index / ((script).length : Int))) else ((12345 : Int), (0 : Int)))).1 - ((10 : Int) ^ ((18 : Int)).toNat)) else (0 : Int)))))) = true then ((((rg 0 (((if (!decide (script = [])) = true then ((ixI 0 script (index % ((script).length : Int))), (index / ((script).length : Int))) else ((12345 : Int), (0 : Int)))).2 % (60 : Int)))).foldl (fun (sv11 : Int) (x12 : Int) => ((sv11 / (1009 : Int)))) ((if (decide (((if (!decide (script = [])) = true then ((ixI 0 script (index % ((script).length : Int))), (index / ((script).length : Int))) else ((12345 : Int), (0 : Int)))).2 < (60 : Int))) = true then (((if (!decide (script = [])) = true then ((ixI 0 script (index % ((script).length : Int))), (index / ((script).length : Int))) else ((12345 : Int), (0 : Int)))).1 - ((10 : Int) ^ ((18 : Int)).toNat)) else (0 : Int)))) % (1009 : Int)) else ((((((((((((if (!decide (script = [])) = true then ((ixI 0 script (index % ((script).length : Int))), (index / ((script).length : Int))) else ((12345 : Int), (0 : Int)))).1 + ((977 : Int) * index)) * (48271 : Int)) + ((31 : Int) * ((script).length : Int))) % (2147483647 : Int)) * ((((((if (!decide (script = [])) = true then ((ixI 0 script (index % ((script).length : Int))), (index / ((script).length : Int))) else ((12345 : Int), (0 : Int)))).1 + ((977 : Int) * index)) * (48271 : Int)) + ((31 : Int) * ((script).length : Int))) % (2147483647 : Int))) + ((40503 : Int) * index)) % (2147483629 : Int)) * (69621 : Int)) + ((((((((((if (!decide (script = [])) = true then ((ixI 0 script (index % ((script).length : Int))), (index / ((script).length : Int))) else ((12345 : Int), (0 : Int)))).1 + ((977 : Int) * index)) * (48271 : Int)) + ((31 : Int) * ((script).length : Int))) % (2147483647 : Int)) * ((((((if (!decide (script = [])) = true then ((ixI 0 script (index % ((script).length : Int))), (index / ((script).length : Int))) else ((12345 : Int), (0 : Int)))).1 + ((977 : Int) * index)) * (48271 : Int)) + ((31 : Int) * ((script).length : Int))) % (2147483647 : Int))) + ((40503 : Int) * index)) % (2147483629 : Int)) / (977 : Int))) % (2147483587 : Int)))
def r__law_number (K : PySem.W.Frag) : List D → D → Prop := fun ds d => ∃ (script : (List Int)) (index : Int), (0 ≤ index ∧ script.length ≤ 63) ∧ ds = [(eZ K) script, D.int index] ∧ d = D.int (m__law_number script index)
abbrev s19 : Stmt := topS 19
abbrev N19 : List Str := ["script", "index", "cell", "turn", "rest", "step", "blend"]
theorem sc19 : FnScope N19 ["script", "index"] (defScope s19) := ⟨rfl, rfl, rfl, by decide +kernel, rfl, by decide +kernel, by decide +kernel⟩
theorem d__law_number (T : Txt K mg)  {f : Addr} {fd : FuncData} (Fu : Fun K "_law_number" "_law_number" s19 f fd) : FnOk P w K mg base CX0 1 f fd ["script", "index"] (spG (relP (r__law_number K))) := by
  refine fn_ok Fu sc19 (fun ds F W d W' h => by obtain ⟨⟨_, _, _, rfl, _⟩, _⟩ := h; rfl) (fun cdv A outer s H E hr ds W d W' vs F h hv => ?_)
  have nd_ := sc19.nd
  obtain ⟨⟨script, index, hp_, rfl, rfl⟩, rfl⟩ := h
  cases hv with | @cons v_script _ _ _ h_script hv => ?_
  cases hv with | @cons v_index _ _ _ h_index hv => ?_
  cases hv
  cases h_index
  obtain ⟨hp1, hp2⟩ := hp_
  refine bl_asgT (ev_if (f := (eP D.int D.int)) (x := ((ixI 0 script (index % ((script).length : Int))), (index / ((script).length : Int)))) (y := ((12345 : Int), (0 : Int))) (et_cm (ev_var (i := 0) rfl h_script) (ev_lstR (f := D.int) [] ea_nilR (by decide)) (cm_neZ hr)) (fun hi1 => (ev_is (d1 := (eP D.int D.int) ((ixI 0 script (index % ((script).length : Int))), (index / ((script).length : Int)))) (ev_tup (ea_cons (ev_ixZR (ev_var (i := 0) rfl h_script) (ev_mod (ev_var (i := 1) rfl (.int _)) (ev_blt T.len cl_lenZR (ea_cons (ev_var (i := 0) rfl h_script) ea_nil) rfl) (by have h1 : 0 < script.length := List.length_pos_iff.mpr (by simpa using hi1); omega)) (by have h1 : 0 < script.length := List.length_pos_iff.mpr (by simpa using hi1); exact ⟨by have := Int.emod_nonneg index (show (script.length : Int) ≠ 0 by omega); omega, Int.emod_lt_of_pos _ (by omega)⟩)) (ea_cons (ev_div (ev_var (i := 1) rfl (.int _)) (ev_blt T.len cl_lenZR (ea_cons (ev_var (i := 0) rfl h_script) ea_nil) rfl) (by have h1 : 0 < script.length := List.length_pos_iff.mpr (by simpa using hi1); exact ⟨by omega, by omega⟩)) ea_nil)) (by simp)) rfl)) (fun hi2 => (ev_is (d1 := (eP D.int D.int) ((12345 : Int), (0 : Int))) (ev_tup (ea_cons ev_int (ea_cons ev_int ea_nil)) (by simp)) rfl))) (fun v_ F_ e4 r3 => ?_)
  replace h_script := h_script.mono e4
  refine tg_tup (ds := [D.int (((if (!decide (script = [])) = true then ((ixI 0 script (index % ((script).length : Int))), (index / ((script).length : Int))) else ((12345 : Int), (0 : Int)))).1), D.int (((if (!decide (script = [])) = true then ((ixI 0 script (index % ((script).length : Int))), (index / ((script).length : Int))) else ((12345 : Int), (0 : Int)))).2)]) r3 (fun vs7 rr8 => ?_)
  cases rr8 with | @cons v_cell _ _ _ h_cell rr8 => ?_
  cases rr8 with | @cons v_turn _ _ _ h_turn rr8 => ?_
  cases rr8
  refine tgs_cons ?_
  cases h_cell
  refine tg_name (i := 2) ?_
  refine tgs_cons ?_
  cases h_turn
  refine tg_name (i := 3) ?_
  refine tgs_nil ?_
  refine bl_asgF (i := 4) (ev_if (f := D.int) (x := (((if (!decide (script = [])) = true then ((ixI 0 script (index % ((script).length : Int))), (index / ((script).length : Int))) else ((12345 : Int), (0 : Int)))).1 - ((10 : Int) ^ ((18 : Int)).toNat))) (y := (0 : Int)) (et_cm (ev_var (i := 3) rfl (.int _)) ev_int cm_lt) (fun hi9 => (ev_sub (ev_var (i := 2) rfl (.int _)) (ev_pow ev_int ev_int (by exact ⟨by decide, by decide, by decide⟩)))) (fun hi10 => ev_int)) (.int _) ?_
  refine bl_forK (xs := (rg 0 (((if (!decide (script = [])) = true then ((ixI 0 script (index % ((script).length : Int))), (index / ((script).length : Int))) else ((12345 : Int), (0 : Int)))).2 % (60 : Int)))) (f := D.int) (ei_range1 T.range (ea_cons (ev_mod (ev_bty T.int cl_int (ea_cons (ev_var (i := 3) rfl (.int _)) ea_nil) rfl) ev_int (by first | decide | omega)) ea_nil) (by omega) (by omega)) (fun (sv11 : Int) (x12 : Int) => ((sv11 / (1009 : Int)))) ((if (decide (((if (!decide (script = [])) = true then ((ixI 0 script (index % ((script).length : Int))), (index / ((script).length : Int))) else ((12345 : Int), (0 : Int)))).2 < (60 : Int))) = true then (((if (!decide (script = [])) = true then ((ixI 0 script (index % ((script).length : Int))), (index / ((script).length : Int))) else ((12345 : Int), (0 : Int)))).1 - ((10 : Int) ^ ((18 : Int)).toNat)) else (0 : Int))) (fun i_ (s_ : Int) σ_ F_ W_ => ∃ (o_step : Option V), σ_ = [some v_script, some (.int index), some (.int ((if (!decide (script = [])) = true then ((ixI 0 script (index % ((script).length : Int))), (index / ((script).length : Int))) else ((12345 : Int), (0 : Int)))).1), some (.int ((if (!decide (script = [])) = true then ((ixI 0 script (index % ((script).length : Int))), (index / ((script).length : Int))) else ((12345 : Int), (0 : Int)))).2), some (.int s_), o_step, none] ∧ W' = W_) (fun F_ e_ => ?_) (fun i16 x12 hi17 hx14 sv11 σ_ F_ W_ e_ J_ v_ F2_ e2_ r15 => ?_) (fun σ_ F_ W_ e_ J_ => ?_)
  · replace h_script := h_script.mono e_
    exact ⟨_, rfl, rfl⟩
  · replace h_script := h_script.mono e_
    obtain ⟨o_step, rfl, rfl⟩ := J_
    replace h_script := h_script.mono e2_
    have hx14m := rg_mem.mp hx14
    cases r15
    refine tg_name (i := 5) ?_
    refine bl_asgF (i := 4) (ev_div (ev_var (i := 4) rfl (.int _)) ev_int (by first | exact ⟨by decide, by decide⟩ | exact ⟨by omega, by omega⟩)) (.int _) ?_
    exact bl_nil ⟨_, rfl, rfl⟩
  · replace h_script := h_script.mono e_
    obtain ⟨o_step, rfl, rfl⟩ := J_
    refine bl_whenR (q := (decide ((0 : Int) < (((rg 0 (((if (!decide (script = [])) = true then ((ixI 0 script (index % ((script).length : Int))), (index / ((script).length : Int))) else ((12345 : Int), (0 : Int)))).2 % (60 : Int)))).foldl (fun (sv11 : Int) (x12 : Int) => ((sv11 / (1009 : Int)))) ((if (decide (((if (!decide (script = [])) = true then ((ixI 0 script (index % ((script).length : Int))), (index / ((script).length : Int))) else ((12345 : Int), (0 : Int)))).2 < (60 : Int))) = true then (((if (!decide (script = [])) = true then ((ixI 0 script (index % ((script).length : Int))), (index / ((script).length : Int))) else ((12345 : Int), (0 : Int)))).1 - ((10 : Int) ^ ((18 : Int)).toNat)) else (0 : Int))))))) (f := D.int) (x := ((((rg 0 (((if (!decide (script = [])) = true then ((ixI 0 script (index % ((script).length : Int))), (index / ((script).length : Int))) else ((12345 : Int), (0 : Int)))).2 % (60 : Int)))).foldl (fun (sv11 : Int) (x12 : Int) => ((sv11 / (1009 : Int)))) ((if (decide (((if (!decide (script = [])) = true then ((ixI 0 script (index % ((script).length : Int))), (index / ((script).length : Int))) else ((12345 : Int), (0 : Int)))).2 < (60 : Int))) = true then (((if (!decide (script = [])) = true then ((ixI 0 script (index % ((script).length : Int))), (index / ((script).length : Int))) else ((12345 : Int), (0 : Int)))).1 - ((10 : Int) ^ ((18 : Int)).toNat)) else (0 : Int)))) % (1009 : Int))) (y := ((((((((((((if (!decide (script = [])) = true then ((ixI 0 script (index % ((script).length : Int))), (index / ((script).length : Int))) else ((12345 : Int), (0 : Int)))).1 + ((977 : Int) * index)) * (48271 : Int)) + ((31 : Int) * ((script).length : Int))) % (2147483647 : Int)) * ((((((if (!decide (script = [])) = true then ((ixI 0 script (index % ((script).length : Int))), (index / ((script).length : Int))) else ((12345 : Int), (0 : Int)))).1 + ((977 : Int) * index)) * (48271 : Int)) + ((31 : Int) * ((script).length : Int))) % (2147483647 : Int))) + ((40503 : Int) * index)) % (2147483629 : Int)) * (69621 : Int)) + ((((((((((if (!decide (script = [])) = true then ((ixI 0 script (index % ((script).length : Int))), (index / ((script).length : Int))) else ((12345 : Int), (0 : Int)))).1 + ((977 : Int) * index)) * (48271 : Int)) + ((31 : Int) * ((script).length : Int))) % (2147483647 : Int)) * ((((((if (!decide (script = [])) = true then ((ixI 0 script (index % ((script).length : Int))), (index / ((script).length : Int))) else ((12345 : Int), (0 : Int)))).1 + ((977 : Int) * index)) * (48271 : Int)) + ((31 : Int) * ((script).length : Int))) % (2147483647 : Int))) + ((40503 : Int) * index)) % (2147483629 : Int)) / (977 : Int))) % (2147483587 : Int))) (et_cm (ev_var (i := 4) rfl (.int _)) ev_int cm_gt) (fun hq18 => ?_) (fun hq18 => ?_)
    · exact bl_ret (ev_mod (ev_bty T.int cl_int (ea_cons (ev_var (i := 4) rfl (.int _)) ea_nil) rfl) ev_int (by first | decide | omega)) ⟨rfl, rfl⟩
    · refine bl_asgF (i := 6) (ev_mod (ev_add (ev_mul (ev_bty T.int cl_int (ea_cons (ev_add (ev_var (i := 2) rfl (.int _)) (ev_mul ev_int (ev_var (i := 1) rfl (.int _)) (by first | exact Or.inl ⟨by omega, by omega⟩ | exact Or.inr ⟨by omega, by omega⟩))) ea_nil) rfl) ev_int (by first | exact Or.inl ⟨by omega, by omega⟩ | exact Or.inr ⟨by omega, by omega⟩)) (ev_mul ev_int (ev_blt T.len cl_lenZR (ea_cons (ev_var (i := 0) rfl h_script) ea_nil) rfl) (by first | exact Or.inl ⟨by omega, by omega⟩ | exact Or.inr ⟨by omega, by omega⟩))) ev_int (by first | decide | omega)) (.int _) ?_
      refine bl_asgF (i := 6) (ev_mod (ev_add (ev_mul (ev_var (i := 6) rfl (.int _)) (ev_var (i := 6) rfl (.int _)) (by first | exact Or.inl ⟨by omega, by omega⟩ | exact Or.inr ⟨by omega, by omega⟩)) (ev_mul ev_int (ev_var (i := 1) rfl (.int _)) (by first | exact Or.inl ⟨by omega, by omega⟩ | exact Or.inr ⟨by omega, by omega⟩))) ev_int (by first | decide | omega)) (.int _) ?_
      exact bl_ret (ev_bty T.int cl_int (ea_cons (ev_mod (ev_add (ev_mul (ev_var (i := 6) rfl (.int _)) ev_int (by first | exact Or.inl ⟨by omega, by omega⟩ | exact Or.inr ⟨by omega, by omega⟩)) (ev_div (ev_var (i := 6) rfl (.int _)) ev_int (by first | exact ⟨by decide, by decide⟩ | exact ⟨by omega, by omega⟩))) ev_int (by first | decide | omega)) ea_nil) rfl) ⟨rfl, rfl⟩
def tk (ns : List Int) (k : Nat) (many : Int) : Int := m__law_number ns ((k : Int) + 1) % many
theorem tk_in (ns : List Int) (k : Nat) {many : Int} (h : 0 < many) : 0 ≤ tk ns k many ∧ tk ns k many < many := ⟨Int.emod_nonneg _ (by omega), Int.emod_lt_of_pos _ h⟩
def r_take (K : PySem.W.Frag) : Rel := fun ds F W d W' => ∃ (dl sa : Addr) (ns : List Int) (k : Nat) (many : Int), ds = [.ow dl, .int many] ∧ (0 < many ∧ ns.length ≤ 63) ∧ W dl = some (.lst [.ref sa, .int k]) ∧ Rep F (.ref sa) (eZ K ns) ∧ d = .int (tk ns k many) ∧ W' = upd W dl (.lst [.ref sa, .int ((k : Int) + 1)])
abbrev s20 : Stmt := topS 20
theorem sc20 : FnScope ["draw", "many"] ["draw", "many"] (defScope s20) := ⟨rfl, rfl, rfl, by decide +kernel, rfl, by decide +kernel, by decide +kernel⟩
theorem d_take (T : Txt K mg) (C__law_number : FnD P w K mg base 1 "_law_number" ["script", "index"] (relP (r__law_number K))) {f : Addr} {fd : FuncData} (Fu : Fun K "_law_take" "_law_take" s20 f fd) : FnOk P w K mg base CX0 2 f fd ["draw", "many"] (spG (r_take K)) := by
  refine fn_ok Fu sc20 (fun ds F W d W' h => by obtain ⟨_, _, _, _, _, rfl, _⟩ := h; rfl) (fun cdv A outer s H E hr ds W d W' vs F h hv => ?_)
  have nd_ := sc20.nd
  obtain ⟨dl, sa, ns, k, many, rfl, ⟨hm, hz⟩, hw, rs, rfl, rfl⟩ := h
  cases hv with | @cons v_draw _ _ _ h_draw hv => ?_
  cases hv with | @cons v_many _ _ _ h_many hv => ?_
  cases hv
  cases h_draw
  cases h_many
  refine bl_augL (j := 1) (m := k) (m2 := 1) (ev_var (i := 0) rfl (.ow _)) ev_int hw rfl ev_int ?_
  refine bl_ret (ev_mod (ev_bty T.int cl_int (ea_cons (ev_call C__law_number hr (ea_cons (ev_ixW (ev_var (i := 0) rfl (.ow _)) ev_int upd_same rfl rs) (ea_cons (ev_bty T.int cl_int (ea_cons (ev_ixW (ev_var (i := 0) rfl (.ow _)) ev_int upd_same rfl (.int _)) ea_nil) rfl) ea_nil)) ⟨ns, (k : Int) + 1, ⟨by omega, hz⟩, rfl, rfl⟩) ea_nil) rfl) (ev_var (i := 1) rfl (.int _)) hm) ⟨rfl, rfl⟩

section
variable {X : Cx} {σ : L2.St} {F W : Hp} {e a : Expr} {p pos : Pos} {dl sa : Addr} {k : Nat} {many : Int} {ns : List Int} {W0 : Hp}
theorem ev_take (C : FnD X.prog X.w X.K X.mg X.base 2 "_law_take" ["draw", "many"] (r_take X.K)) (hr : Room 2 X.A) (ha : EvS X a σ F (WK W dl sa k) (.ow dl) (WK W dl sa k)) (he : EvS X e σ F (WK W dl sa k) (.int many) (WK W dl sa k)) (hm : 0 < many) (hz : ns.length ≤ 63) (rs : Rep F (.ref sa) (eZ X.K ns)) (hg : Gl X "_law_take" := by rfl)
    (h1 : starEach [a, e] X.env = (false, eval a X.env) :: starEach [e] X.env := by rfl) (h2 : starEach [e] X.env = (false, eval e X.env) :: starEach [] X.env := by rfl) (hpl : (backTo pos (starEach [e] X.env)).any (·.1) = false := by rfl) :
    EvS X (.Call (.Name "_law_take" p) [a, e] [] pos) σ F (WK W dl sa k) (.int (tk ns k many)) (WK W dl sa (k + 1)) :=
  ev_callG C hr (ea_cons ha (ea_cons he ea_nil h2) h1) (fun F1 ex => ⟨dl, sa, ns, k, many, rfl, ⟨hm, hz⟩, WK_at, rs.mono ex, rfl, WK_next.symm⟩) hg (by decide) h1 hpl
end
section
variable {W W0 : Hp} {dl ml sa : Addr} {k : Nat} {o o2 : HO}
theorem wk_own (h : dl ≠ ml) : WK (upd W0 ml o) dl sa k ml = some o := by unfold WK; rw [upd_ne (Ne.symm h), upd_same]
theorem wk_put (h : dl ≠ ml) : upd (WK (upd W0 ml o) dl sa k) ml o2 = WK (upd W0 ml o2) dl sa k := upd2_put h
theorem wk_del (h : dl ≠ ml) (hm : W0 ml = none) : del (WK (upd W0 ml o) dl sa k) ml = WK W0 dl sa k := by
  funext x
  unfold del WK
  by_cases e1 : x = ml
  · subst e1; rw [if_pos rfl, upd_ne (Ne.symm h)]; exact hm.symm
  rw [if_neg e1]
  by_cases e2 : x = dl
  · subst e2; rw [upd_same, upd_same]
  · rw [upd_ne e2, upd_ne e2, upd_ne e1]
theorem wk_in (h : dl ≠ ml) (hw : W0 dl = some (.lst [.ref sa, .int (k : Int)])) : upd W0 ml o = WK (upd W0 ml o) dl sa k := by
  funext x
  unfold WK
  by_cases e : x = dl
  · subst e; rw [upd_same, upd_ne h]; exact hw
  · rw [upd_ne e]
end

/-- a commit's pages, drawn -/
def cmRow (ns : List Int) (k : Nat) : List Str × Nat := lcK (fun (_ : Str) (k_ : Nat) => (decide (tk ns k_ 2 = 0), k_ + 1)) (fun (x : Str) (k_ : Nat) => (x, k_)) ["a", "b", "c", "d"] k
def cmRun (ns : List Int) (k : Nat) : Nat → List (List Str) × Nat
  | 0 => ([], k + 1)
  | i + 1 => ((cmRun ns k i).1 ++ [(cmRow ns (cmRun ns k i).2).1], (cmRow ns (cmRun ns k i).2).2)
def cmOf (ns : List Int) (k : Nat) (most : Int) : List (List Str) × Nat := cmRun ns k (tk ns k (most + 1)).toNat
theorem cmRun_len (ns : List Int) (k i : Nat) : (cmRun ns k i).1.length = i := by
  induction i with
  | zero => rfl
  | succ i ih => show ((cmRun ns k i).1 ++ [_]).length = _; rw [List.length_append, ih]; rfl
def r_commits (K : PySem.W.Frag) : Rel := fun ds F W d W' => ∃ (dl sa : Addr) (ns : List Int) (k : Nat) (most : Int), ds = [.ow dl, .int most] ∧ (0 ≤ most ∧ most ≤ 50 ∧ ns.length ≤ 63) ∧ W dl = some (.lst [.ref sa, .int k]) ∧ Rep F (.ref sa) (eZ K ns) ∧ d = eR false (eR true D.str) (cmOf ns k most).1 ∧ W' = WK W dl sa (cmOf ns k most).2
abbrev s21 : Stmt := topS 21
abbrev N21 : List Str := ["draw", "most", "found", "turn", "page"]
theorem sc21 : FnScope N21 ["draw", "most"] (defScope s21) := ⟨rfl, rfl, rfl, by decide +kernel, rfl, by decide +kernel, by decide +kernel⟩
theorem d_commits (T : Txt K mg) (C_take : FnD P w K mg base 2 "_law_take" ["draw", "many"] (r_take K)) {f : Addr} {fd : FuncData} (Fu : Fun K "_law_commits" "_law_commits" s21 f fd) : FnOk P w K mg base CX0 3 f fd ["draw", "most"] (spG (r_commits K)) := by
  refine fn_ok Fu sc21 (fun ds F W d W' h => by obtain ⟨_, _, _, _, _, rfl, _⟩ := h; rfl) (fun cdv A outer s H E hr ds W d W' vs F h hv => ?_)
  have nd_ := sc21.nd
  obtain ⟨dl, sa, ns, k, most, rfl, ⟨hm0, hm5, hz_⟩, hw, h_sa, rfl, rfl⟩ := h
  cases hv with | @cons v_draw _ _ _ h_draw hv => ?_
  cases hv with | @cons v_most _ _ _ h_most hv => ?_
  cases hv
  cases h_draw
  cases h_most
  refine bl_asgN (i := 2) (en_lst ea_nil (by simp)) (fun le vs0 F1 e1 h_cm wn => ?_)
  replace h_sa := h_sa.mono e1
  have ne_ : dl ≠ le := fun e => by rw [← e, hw] at wn; cases wn
  rw [wk_in ne_ hw]
  have h15 := tk_in ns k (many := most + 1) (by omega)
  refine bl_for (n := (tk ns k (most + 1)).toNat) (W1 := WK (upd W le (.lst vs0)) dl sa (k + 1)) (ei_range1 T.range (ea_cons (ev_take C_take (hr.mono (by decide)) (ev_var (i := 0) rfl (.ow _)) (ev_add (ev_var (i := 1) rfl (.int _)) ev_int) (by omega) hz_ h_sa) ea_nil) (by omega) (by omega)) (by rw [List.length_map, rg_len]; simp)
    (fun i σ' F' W' => ∃ (vs : List V) (o_turn o_page : Option V), σ' = [some (.ref dl), some (.int most), some (.ref le), o_turn, o_page] ∧ Reps F' vs ((cmRun ns k i).1.map (eR true D.str)) ∧ W' = WK (upd W le (.lst vs)) dl sa (cmRun ns k i).2)
    (fun F3 e3 => ⟨_, _, _, rfl, h_cm.mono e3, rfl⟩) (fun i d h σ' F3 W3 e3 J v F4 e4 r => ?_) (fun σ' F3 W3 e3 J => ?_)
  · rw [List.getElem?_map, Option.map_eq_some_iff] at h
    obtain ⟨x, hx, rfl⟩ := h
    have hi15 : i < 51 := by have := (List.getElem?_eq_some_iff.mp hx).1; rw [rg_len] at this; omega
    obtain ⟨vs, o1, o2, rfl, h_cm, rfl⟩ := J
    have hl1 := cmRun_len ns k i
    have estep : cmRun ns k (i + 1) = ((cmRun ns k i).1 ++ [(cmRow ns (cmRun ns k i).2).1], (cmRow ns (cmRun ns k i).2).2) := rfl
    generalize hS : cmRun ns k i = S at h_cm hl1 estep
    obtain ⟨cms, kk⟩ := S
    dsimp only at h_cm hl1 estep ⊢
    cases r
    replace h_cm := h_cm.mono e4
    replace h_sa := (h_sa.mono e3).mono e4
    refine tg_name (i := 3) ?_
    have hlen : vs.length < 100000 := by rw [h_cm.length, List.length_map]; omega
    refine bl_app (W1 := WK (upd W le (.lst vs)) dl sa (cmRow ns kk).2) (d := eR true D.str (cmRow ns kk).1) (ev_var (i := 2) rfl (.ow _)) (ev_bty T.tuple cl_tupleR (ea_cons (ev_ofLc (lc_K (own := [("page", 4)]) (f := D.str) (g := D.str) (fun k => WK (upd W le (.lst vs)) dl sa k) (k0 := kk) (fun (_ : Str) (k_ : Nat) => (decide (tk ns k_ 2 = 0), k_ + 1)) (fun (x : Str) (k_ : Nat) => (x, k_)) (ei_row (ev_tupR (f := D.str) ["a", "b", "c", "d"] (ea_consR (f := D.str) (x := ("a" : Str)) ev_str (ea_consR (f := D.str) (x := ("b" : Str)) ev_str (ea_consR (f := D.str) (x := ("c" : Str)) ev_str (ea_consR (f := D.str) (x := ("d" : Str)) ev_str ea_nilR)))) (by simp))) (by simp) (fun x hx k_ v_ F1_ e_ r => by
      replace h_sa := h_sa.mono e_
      intro s_ H0_ C_ cl_ fp_
      cases r
      refine tg_name (i := 4) ?_
      refine ⟨((wipe_set (by decide)).trans (wipe_wipe)), fun s_ H0_ C_ cl_ fp_ => ?_, fun ht_ s_ H0_ C_ cl_ fp_ => ?_⟩
      · exact ets_one (et_cm (ev_take (k := k_) C_take (hr.mono (by decide)) (ev_var (i := 0) rfl (.ow _)) ev_int (by decide) hz_ h_sa) ev_int (cm_eq (f := D.int) (x := tk ns k_ 2) (y := (0 : Int)) hr lw_int))
      · exact (ev_var (i := 4) rfl (.str _)))) (ok := blkOk_by (N := N21) (sc := defScope s21) (by decide +kernel))) ea_nil) rfl) (wk_own ne_) hlen (wk_own ne_) (fun v F7 e7 r7 => ?_)
    rw [wk_put ne_]
    refine bl_nil ⟨vs ++ [v], _, _, rfl, ?_, by rw [estep]⟩
    rw [estep]
    have := (h_cm.mono e7).snoc r7
    rw [List.map_append]; exact this
  · obtain ⟨vs, o1, o2, rfl, h_cm, rfl⟩ := J
    refine bl_freeze (l := le) (wk_own ne_) h_cm (by rw [List.length_map, cmRun_len]; omega) (fun F4 e4 hf => ?_)
    rw [wk_del ne_ wn]
    exact bl_ret (ev_var (i := 2) rfl hf) ⟨rfl, rfl⟩
theorem mem_cut {α : Type} {xs : List α} {l u : Option Int} {x : α} (h : x ∈ cutL xs l u) : x ∈ xs := List.mem_of_mem_drop (List.mem_of_mem_take h)
theorem cut_len {α : Type} (xs : List α) (l u : Option Int) : (cutL xs l u).length ≤ xs.length := by unfold cutL; rw [List.length_take, List.length_drop]; omega
def m__law_last (commits : (List (List Str))) (many : Int) (page : Str) : Int := (maxL (((0 : Int) :: ([] : List Int)) ++ ((((rg 0 many)).filter fun x4 => (decide (page ∈ (ixI [] commits x4)))).map fun x4 => (x4 + (1 : Int)))))
def r__law_last : List D → D → Prop := fun ds d => ∃ (commits : (List (List Str))) (many : Int) (page : Str), (commits.length ≤ 50 ∧ 0 ≤ many ∧ many ≤ commits.length) ∧ ds = [(eR false (eR true D.str)) commits, D.int many, D.str page] ∧ d = D.int (m__law_last commits many page)
abbrev s22 : Stmt := topS 22
abbrev N22 : List Str := ["commits", "many", "page", "at"]
theorem sc22 : FnScope N22 ["commits", "many", "page"] (defScope s22) := ⟨rfl, rfl, rfl, by decide +kernel, rfl, by decide +kernel, by decide +kernel⟩
theorem d__law_last (T : Txt K mg)  {f : Addr} {fd : FuncData} (Fu : Fun K "_law_last" "_law_last" s22 f fd) : FnOk P w K mg base CX0 1 f fd ["commits", "many", "page"] (spG (relP r__law_last)) := by
  refine fn_ok Fu sc22 (fun ds F W d W' h => by obtain ⟨⟨_, _, _, _, rfl, _⟩, _⟩ := h; rfl) (fun cdv A outer s H E hr ds W d W' vs F h hv => ?_)
  have nd_ := sc22.nd
  obtain ⟨⟨commits, many, page, hp_, rfl, rfl⟩, rfl⟩ := h
  cases hv with | @cons v_commits _ _ _ h_commits hv => ?_
  cases hv with | @cons v_many _ _ _ h_many hv => ?_
  cases hv with | @cons v_page _ _ _ h_page hv => ?_
  cases hv
  have hl_commits := rep_len h_commits
  cases h_many
  cases h_page
  obtain ⟨h_len, h_n0, h_n1⟩ := hp_
  exact bl_ret (ev_blt T.max (cl_max (by simp)) (ea_cons (ev_catR (ev_lstR ((0 : Int) :: ([] : List Int)) (ea_consR (f := D.int) (x := (0 : Int)) ev_int (ea_nilR (f := D.int))) (by simp [rg_len, enumT_len]; try omega)) (ev_ofLc (lc_F (own := [("at", 3)]) (f := D.int) (g := D.int) (fun x4 => (decide (page ∈ (ixI [] commits x4)))) (fun x4 => (x4 + (1 : Int))) (ei_range1 T.range (ea_cons (ev_var (i := 1) rfl (.int _)) ea_nil) (by omega) (by omega)) (by first | assumption | omega | (simp only [List.length_map, enumT_len, rg_len]; omega) | (simp; done) | (simp; omega)) (fun x4 hx5 v_ F1_ e_ r6 => by
      replace h_commits := h_commits.mono e_
      have hx5m := rg_mem.mp hx5
      intro s_ H0_ C_ cl_ fp_
      cases r6
      refine tg_name (i := 3) ?_
      refine ⟨((wipe_set (by decide)).trans (wipe_wipe)), fun s_ H0_ C_ cl_ fp_ => ?_, fun ht_ s_ H0_ C_ cl_ fp_ => ?_⟩
      · exact ets_one (et_cm (ev_var (i := 2) rfl (.str _)) (ev_ix (ev_var (i := 0) rfl h_commits) (ev_var (i := 3) rfl (.int _)) (ixI_at (d := []) (by omega))) (cm_in (f := D.str) (x := page) (xs := (ixI [] commits x4)) hr lw_str) (by with_unfolding_all rfl))
      · exact (ev_add (ev_var (i := 3) rfl (.int _)) ev_int))) (ok := blkOk_by (N := N22) (sc := defScope s22) (by decide +kernel))) (by rw [List.length_map]; exact Nat.le_trans (Nat.add_le_add_left (List.length_filter_le _ _) _) (by rw [rg_len]; simp only [List.length_cons, List.length_nil]; omega))) ea_nil) rfl) ⟨rfl, rfl⟩
def m__law_contents (commits : (List (List Str))) (many : Int) (pages : (List Str)) : (List (Str × Int)) := (tOf ((pages).map fun x1 => (x1, (m__law_last (commits) (many) (x1)))))
def r__law_contents : List D → D → Prop := fun ds d => ∃ (commits : (List (List Str))) (many : Int) (pages : (List Str)), (commits.length ≤ 50 ∧ 0 ≤ many ∧ many ≤ commits.length ∧ pages.length ≤ 8) ∧ ds = [(eR false (eR true D.str)) commits, D.int many, (eR false D.str) pages] ∧ d = (eT Sum.inr D.int) (m__law_contents commits many pages)
abbrev s23 : Stmt := topS 23
abbrev N23 : List Str := ["commits", "many", "pages", "page"]
theorem sc23 : FnScope N23 ["commits", "many", "pages"] (defScope s23) := ⟨rfl, rfl, rfl, by decide +kernel, rfl, by decide +kernel, by decide +kernel⟩
theorem d__law_contents (T : Txt K mg) (C__law_last : FnD P w K mg base 1 "_law_last" ["commits", "many", "page"] (relP r__law_last)) {f : Addr} {fd : FuncData} (Fu : Fun K "_law_contents" "_law_contents" s23 f fd) : FnOk P w K mg base CX0 2 f fd ["commits", "many", "pages"] (spG (relP r__law_contents)) := by
  refine fn_ok Fu sc23 (fun ds F W d W' h => by obtain ⟨⟨_, _, _, _, rfl, _⟩, _⟩ := h; rfl) (fun cdv A outer s H E hr ds W d W' vs F h hv => ?_)
  have nd_ := sc23.nd
  obtain ⟨⟨commits, many, pages, hp_, rfl, rfl⟩, rfl⟩ := h
  cases hv with | @cons v_commits _ _ _ h_commits hv => ?_
  cases hv with | @cons v_many _ _ _ h_many hv => ?_
  cases hv with | @cons v_pages _ _ _ h_pages hv => ?_
  cases hv
  have hl_commits := rep_len h_commits
  cases h_many
  have hl_pages := rep_len h_pages
  have h_pre : commits.length ≤ 50 ∧ 0 ≤ many ∧ many ≤ commits.length := ⟨hp_.1, hp_.2.1, hp_.2.2.1⟩
  exact bl_ret (ev_bty T.dict (cl_dict keS) (ea_cons (ev_ofLc (lc_M (own := [("page", 3)]) (f := D.str) (g := (eP D.str D.int)) (fun x1 => (x1, (m__law_last (commits) (many) (x1)))) (ei_row (ev_var (i := 2) rfl h_pages)) (by first | exact rep_len h_pages | assumption | omega | (simp only [List.length_map, enumT_len, rg_len]; omega) | (simp; done) | (simp; omega)) (fun x1 hx2 v_ F1_ e_ r3 => by
      replace h_commits := h_commits.mono e_
      replace h_pages := h_pages.mono e_
      intro s_ H0_ C_ cl_ fp_
      cases r3
      refine tg_name (i := 3) ?_
      refine ⟨((wipe_set (by decide)).trans (wipe_wipe)), fun s_ H0_ C_ cl_ fp_ => ?_, fun ht_ s_ H0_ C_ cl_ fp_ => ?_⟩
      · exact ets_nil
      · exact (ev_is (d1 := (eP D.str D.int) (x1, (m__law_last (commits) (many) (x1)))) (ev_tup (ea_cons (ev_var (i := 3) rfl (.str _)) (ea_cons (ev_call C__law_last (hr.mono (by decide)) (ea_cons (ev_var (i := 0) rfl h_commits) (ea_cons (ev_var (i := 1) rfl (.int _)) (ea_cons (ev_var (i := 3) rfl (.str _)) ea_nil))) (⟨(commits), (many), (x1), (by first | assumption | exact hp_.1 | omega), rfl, rfl⟩)) ea_nil)) (by simp)) rfl))) (ok := blkOk_by (N := N23) (sc := defScope s23) (by decide +kernel))) ea_nil) rfl) ⟨rfl, rfl⟩
def m__law_pairs (some_ : (List Str)) (wild : (List (Str × Int))) : (List (List (Str × Int))) := (((enumT some_)).foldl (fun (sv2 : (List (List (Str × Int)))) (x3 : (Int × Str)) => ((sv2 ++ (((cutL some_ (some (x3).1) none)).map fun x16 => (tOf (((x3).2, ((tGet wild (x3).2).getD 0)) :: ((x16, ((tGet wild x16).getD 0)) :: ([] : List (Str × Int))))))))) ((([] : (List (Str × Int))) :: ([] : List (List (Str × Int))))))
def r__law_pairs : List D → D → Prop := fun ds d => ∃ (some_ : (List Str)) (wild : (List (Str × Int))), ((∀ z ∈ some_, (tGet wild z).isSome = true) ∧ some_.length ≤ 8) ∧ ds = [(eR false D.str) some_, (eT Sum.inr D.int) wild] ∧ d = (eR false (eT Sum.inr D.int)) (m__law_pairs some_ wild)
abbrev s24 : Stmt := topS 24
abbrev N24 : List Str := ["some", "wild", "found", "at", "one", "two"]
theorem sc24 : FnScope N24 ["some", "wild"] (defScope s24) := ⟨rfl, rfl, rfl, by decide +kernel, rfl, by decide +kernel, by decide +kernel⟩
theorem d__law_pairs (T : Txt K mg)  {f : Addr} {fd : FuncData} (Fu : Fun K "_law_pairs" "_law_pairs" s24 f fd) : FnOk P w K mg base CX0 1 f fd ["some", "wild"] (spG (relP r__law_pairs)) := by
  refine fn_ok Fu sc24 (fun ds F W d W' h => by obtain ⟨⟨_, _, _, rfl, _⟩, _⟩ := h; rfl) (fun cdv A outer s H E hr ds W d W' vs F h hv => ?_)
  have nd_ := sc24.nd
  obtain ⟨⟨some_, wild, hp_, rfl, rfl⟩, rfl⟩ := h
  cases hv with | @cons v_some _ _ _ h_some hv => ?_
  cases hv with | @cons v_wild _ _ _ h_wild hv => ?_
  cases hv
  have hl_some := rep_len h_some
  refine bl_asg (i := 2) (ev_lstR (([] : (List (Str × Int))) :: ([] : List (List (Str × Int)))) (ea_consR (f := (eT Sum.inr D.int)) (x := ([] : (List (Str × Int)))) (ev_newT (kf := Sum.inr) (g := D.int)) (ea_nilR (f := (eT Sum.inr D.int)))) (by simp [rg_len, enumT_len]; try omega)) (fun v_found F_ e1 h_found => ?_)
  have hl_found := rep_len h_found
  replace h_some := h_some.mono e1
  replace h_wild := h_wild.mono e1
  refine bl_forK (xs := (enumT some_)) (f := (eP D.int D.str)) (ei_enumR T.enumerate (ev_var (i := 0) rfl h_some)) (fun (sv2 : (List (List (Str × Int)))) (x3 : (Int × Str)) => ((sv2 ++ (((cutL some_ (some (x3).1) none)).map fun x16 => (tOf (((x3).2, ((tGet wild (x3).2).getD 0)) :: ((x16, ((tGet wild x16).getD 0)) :: ([] : List (Str × Int))))))))) ((([] : (List (Str × Int))) :: ([] : List (List (Str × Int))))) (fun i_ (s_ : (List (List (Str × Int)))) σ_ F_ W_ => ∃ (o_at : Option V) (o_one : Option V) (v_found : V), σ_ = [some v_some, some v_wild, some v_found, o_at, o_one, none] ∧ Rep F_ v_found ((eR false (eT Sum.inr D.int)) s_) ∧ (s_.length ≤ 1 + 8 * i_) ∧ W' = W_) (fun F_ e_ => ?_) (fun i7 x3 hi8 hx5 sv2 σ_ F_ W_ e_ J_ v_ F2_ e2_ r6 => ?_) (fun σ_ F_ W_ e_ J_ => ?_)
  · replace h_some := h_some.mono e_
    replace h_wild := h_wild.mono e_
    replace h_found := h_found.mono e_
    exact ⟨_, _, _, rfl, h_found, (by first | omega | (simp; done)), rfl⟩
  · replace h_some := h_some.mono e_
    replace h_wild := h_wild.mono e_
    replace h_found := h_found.mono e_
    obtain ⟨o_at, o_one, v_found, rfl, h_found, inv4, rfl⟩ := J_
    replace h_some := h_some.mono e2_
    replace h_wild := h_wild.mono e2_
    replace h_found := h_found.mono e2_
    have hx5m := enumT_mem hx5
    refine tg_tup (ds := [D.int ((x3).1), D.str ((x3).2)]) r6 (fun vs11 rr12 => ?_)
    cases rr12 with | @cons v_at _ _ _ h_at rr12 => ?_
    cases rr12 with | @cons v_one _ _ _ h_one rr12 => ?_
    cases rr12
    refine tgs_cons ?_
    cases h_at
    refine tg_name (i := 3) ?_
    refine tgs_cons ?_
    cases h_one
    refine tg_name (i := 4) ?_
    refine tgs_nil ?_
    refine bl_asg (i := 2) (ev_catR (ev_var (i := 2) rfl h_found) (ev_ofLc (lc_M (own := [("two", 5)]) (f := D.str) (g := (eT Sum.inr D.int)) (fun x16 => (tOf (((x3).2, ((tGet wild (x3).2).getD 0)) :: ((x16, ((tGet wild x16).getD 0)) :: ([] : List (Str × Int)))))) (ei_row (ev_sl (l := (some (x3).1)) (u := none) (ev_var (i := 0) rfl h_some) (eo_some (ev_var (i := 3) rfl (.int _))) eo_none)) (by exact Nat.le_trans (cut_len _ _ _) (by omega)) (fun x16 hx17 v_ F1_ e_ r18 => by
      replace h_some := h_some.mono e_
      replace h_wild := h_wild.mono e_
      replace h_found := h_found.mono e_
      intro s_ H0_ C_ cl_ fp_
      cases r18
      refine tg_name (i := 5) ?_
      refine ⟨((wipe_set (by decide)).trans (wipe_wipe)), fun s_ H0_ C_ cl_ fp_ => ?_, fun ht_ s_ H0_ C_ cl_ fp_ => ?_⟩
      · exact ets_nil
      · exact (ev_bty T.dict (cl_dict keS) (ea_cons (ev_lstR (((x3).2, ((tGet wild (x3).2).getD 0)) :: ((x16, ((tGet wild x16).getD 0)) :: ([] : List (Str × Int)))) (ea_consR (f := (eP D.str D.int)) (x := ((x3).2, ((tGet wild (x3).2).getD 0))) (ev_is (d1 := (eP D.str D.int) ((x3).2, ((tGet wild (x3).2).getD 0))) (ev_tup (ea_cons (ev_var (i := 4) rfl (.str _)) (ea_cons (ev_tsub keS hr (ev_var (i := 1) rfl h_wild) (ev_var (i := 4) rfl (.str _)) (oGet (by first | exact hp_.1 _ hx5m.2.2 | exact hp_.1 _ (mem_cut (by assumption))))) ea_nil)) (by simp)) rfl) (ea_consR (f := (eP D.str D.int)) (x := (x16, ((tGet wild x16).getD 0))) (ev_is (d1 := (eP D.str D.int) (x16, ((tGet wild x16).getD 0))) (ev_tup (ea_cons (ev_var (i := 5) rfl (.str _)) (ea_cons (ev_tsub keS hr (ev_var (i := 1) rfl h_wild) (ev_var (i := 5) rfl (.str _)) (oGet (by first | exact hp_.1 _ hx5m.2.2 | exact hp_.1 _ (mem_cut (by assumption))))) ea_nil)) (by simp)) rfl) (ea_nilR (f := (eP D.str D.int))))) (by simp [rg_len, enumT_len]; try omega)) ea_nil) rfl))) (ok := blkOk_by (N := N24) (sc := defScope s24) (by decide +kernel))) (by have b1 := (List.getElem?_eq_some_iff.mp hi8).1; rw [enumT_len] at b1; have b2 := cut_len some_ (some x3.1) none; rw [List.length_map]; omega)) (fun v_found F_ e19 h_found => ?_)
    have hl_found := rep_len h_found
    replace h_some := h_some.mono e19
    replace h_wild := h_wild.mono e19
    exact bl_nil ⟨_, _, _, rfl, h_found, (by have b1 := (List.getElem?_eq_some_iff.mp hi8).1; rw [enumT_len] at b1; have b2 := cut_len some_ (some x3.1) none; rw [List.length_append, List.length_map]; omega), rfl⟩
  · replace h_some := h_some.mono e_
    replace h_wild := h_wild.mono e_
    replace h_found := h_found.mono e_
    obtain ⟨o_at, o_one, v_found, rfl, h_found, inv4, rfl⟩ := J_
    exact bl_ret (ev_var (i := 2) rfl h_found) ⟨rfl, rfl⟩
end
end B
set_option Elab.async false
set_option linter.all false
set_option maxRecDepth 100000
set_option maxHeartbeats 1000000
namespace B
open PySem PySem.Spec PyProof.Rows L2 Z
/-! ## greatest and least -/
theorem has_max : ∀ {ns : List Int}, ns ≠ [] → ∃ m ∈ ns, ∀ y ∈ ns, y ≤ m
  | [], h => absurd rfl h
  | [x], _ => ⟨x, List.mem_cons_self, fun y hy => by rw [List.mem_singleton.mp hy]; exact Int.le_refl _⟩
  | x :: y :: r, _ => by
    obtain ⟨m, h1, h2⟩ := has_max (ns := y :: r) (by simp)
    by_cases h : x ≤ m
    · exact ⟨m, List.mem_cons_of_mem _ h1, fun z hz => by rcases List.mem_cons.mp hz with e | e; rw [e]; exact h; exact h2 z e⟩
    · exact ⟨x, List.mem_cons_self, fun z hz => by rcases List.mem_cons.mp hz with e | e; rw [e]; exact Int.le_refl _; have := h2 z e; omega⟩
theorem has_min : ∀ {ns : List Int}, ns ≠ [] → ∃ m ∈ ns, ∀ y ∈ ns, m ≤ y
  | [], h => absurd rfl h
  | [x], _ => ⟨x, List.mem_cons_self, fun y hy => by rw [List.mem_singleton.mp hy]; exact Int.le_refl _⟩
  | x :: y :: r, _ => by
    obtain ⟨m, h1, h2⟩ := has_min (ns := y :: r) (by simp)
    by_cases h : m ≤ x
    · exact ⟨m, List.mem_cons_of_mem _ h1, fun z hz => by rcases List.mem_cons.mp hz with e | e; rw [e]; exact h; exact h2 z e⟩
    · exact ⟨x, List.mem_cons_self, fun z hz => by rcases List.mem_cons.mp hz with e | e; rw [e]; exact Int.le_refl _; have := h2 z e; omega⟩
theorem maxL_sp {ns : List Int} (h : ns ≠ []) : maxL ns ∈ ns ∧ ∀ y ∈ ns, y ≤ maxL ns := by
  obtain ⟨m, h1, h2⟩ := has_max h
  rw [maxL_of h1 h2]; exact ⟨h1, h2⟩
theorem minL_sp {ns : List Int} (h : ns ≠ []) : minL ns ∈ ns ∧ ∀ y ∈ ns, minL ns ≤ y := by
  obtain ⟨m, h1, h2⟩ := has_min h
  rw [minL_of h1 h2]; exact ⟨h1, h2⟩
/-! ## the last commit of a page -/
/-- n is the number of the last of the first k commits that has page p -/
def IsLast (cs : List (List Str)) (k : Int) (p : Str) (n : Int) : Prop := 0 ≤ n ∧ n ≤ k ∧ (0 < n → p ∈ ixI [] cs (n - 1)) ∧ ∀ i, n ≤ i → i < k → p ∉ ixI [] cs i
theorem last_is {cs : List (List Str)} {k : Int} {p : Str} (h0 : 0 ≤ k) : IsLast cs k p (m__law_last cs k p) := by
  unfold m__law_last
  obtain ⟨h1, h2⟩ := maxL_sp (ns := (((0 : Int) :: ([] : List Int)) ++ ((((rg 0 k)).filter fun x4 => (decide (p ∈ (ixI [] cs x4)))).map fun x4 => (x4 + (1 : Int))))) (by simp)
  generalize maxL _ = m at h1 h2
  have h3 := h2 0 (by simp)
  have key : ∀ i, 0 ≤ i → i < k → p ∈ ixI [] cs i → i + 1 ≤ m := fun i a b c => h2 (i + 1) (List.mem_append_right _ (List.mem_map.mpr ⟨i, List.mem_filter.mpr ⟨rg_mem.mpr ⟨a, b⟩, by simpa using c⟩, rfl⟩))
  refine ⟨h3, ?_, fun hm => ?_, fun i a b c => by have := key i (by omega) b c; omega⟩
  · rcases List.mem_append.mp h1 with e | e
    · have : m = 0 := by simpa using e
      omega
    · obtain ⟨i, e1, e2⟩ := List.mem_map.mp e
      have := rg_mem.mp (List.mem_filter.mp e1).1
      omega
  · rcases List.mem_append.mp h1 with e | e
    · have : m = 0 := by simpa using e
      omega
    · obtain ⟨i, e1, e2⟩ := List.mem_map.mp e
      have := (List.mem_filter.mp e1).2
      have e3 : m - 1 = i := by omega
      rw [e3]; simpa using this
theorem IsLast.uniq {cs : List (List Str)} {k : Int} {p : Str} {n m : Int} (a : IsLast cs k p n) (b : IsLast cs k p m) : n = m := by
  obtain ⟨a1, a2, a3, a4⟩ := a
  obtain ⟨b1, b2, b3, b4⟩ := b
  rcases Int.lt_trichotomy n m with h | h | h
  · exact absurd (b3 (by omega)) (a4 (m - 1) (by omega) (by omega))
  · exact h
  · exact absurd (a3 (by omega)) (b4 (n - 1) (by omega) (by omega))
theorem last_iff {cs : List (List Str)} {k : Int} {p : Str} {n : Int} (h0 : 0 ≤ k) : m__law_last cs k p = n ↔ IsLast cs k p n := ⟨fun h => h ▸ last_is h0, fun h => (last_is h0).uniq h⟩
/-! ## the interval of a page -/
theorem mem_enum {α : Type} {d : α} {xs : List α} {x : Int × α} : x ∈ enumT xs ↔ 0 ≤ x.1 ∧ x.1 < xs.length ∧ x.2 = ixI d xs x.1 := by
  unfold enumT
  rw [List.mem_map]
  constructor
  · rintro ⟨⟨y, i⟩, h1, rfl⟩
    obtain ⟨hi, e⟩ := List.getElem?_eq_some_iff.mp (List.mem_zipIdx_iff_getElem?.mp h1)
    refine ⟨by simp, by simp; exact hi, ?_⟩
    show y = ixI d xs (i : Int)
    rw [ixI_nat hi]; exact e.symm
  · rintro ⟨h1, h2, h3⟩
    obtain ⟨i, y⟩ := x
    simp only at h1 h2 h3
    obtain ⟨n, rfl⟩ := Int.eq_ofNat_of_zero_le h1
    have hn : n < xs.length := by exact_mod_cast h2
    refine ⟨(y, n), List.mem_zipIdx_iff_getElem?.mpr ?_, rfl⟩
    rw [List.getElem?_eq_some_iff]
    refine ⟨hn, ?_⟩
    rw [h3]; exact (ixI_nat hn).symm
theorem enum_inc {α : Type} (xs : List α) : (enumT xs).Pairwise fun a b => a.1 < b.1 := by
  unfold enumT
  rw [List.pairwise_map, List.pairwise_iff_getElem]
  intro i j hi hj hij
  simp only [List.getElem_zipIdx]
  omega
def laterL (cs : List (List Str)) (p : Str) (n : Int) : List Int := ((((enumT cs)).filter fun x3 => ((decide (p ∈ (x3).2)) && (decide (n < ((x3).1 + (1 : Int)))))).map fun x3 => ((x3).1 + (1 : Int)))
theorem mem_later {cs : List (List Str)} {p : Str} {n y : Int} : y ∈ laterL cs p n ↔ 1 ≤ y ∧ y ≤ cs.length ∧ n < y ∧ p ∈ ixI [] cs (y - 1) := by
  unfold laterL
  rw [List.mem_map]
  constructor
  · rintro ⟨x, h1, rfl⟩
    obtain ⟨h2, h3⟩ := List.mem_filter.mp h1
    obtain ⟨a, b, c⟩ := (mem_enum (d := [])).mp h2
    simp only [Bool.and_eq_true, decide_eq_true_iff] at h3
    rw [c] at h3
    rw [show x.1 + 1 - 1 = x.1 from by omega]
    exact ⟨by omega, by omega, h3.2, h3.1⟩
  · rintro ⟨h1, h2, h3, h4⟩
    refine ⟨(y - 1, ixI [] cs (y - 1)), List.mem_filter.mpr ⟨(mem_enum (d := [])).mpr ⟨by show 0 ≤ y - 1; omega, by show y - 1 < _; omega, rfl⟩, ?_⟩, by show y - 1 + 1 = y; omega⟩
    simp only [Bool.and_eq_true, decide_eq_true_iff]
    exact ⟨h4, by omega⟩
theorem later_inc (cs : List (List Str)) (p : Str) (n : Int) : (laterL cs p n).Pairwise (· < ·) := by
  unfold laterL
  exact List.Pairwise.map _ (fun a b h => by omega) ((enum_inc cs).filter _)
theorem interval_eq {cs : List (List Str)} {p : Str} {n : Int} : m_interval cs p n = if 0 < n ∧ p ∉ ixI [] cs (n - 1) then none else some (n, if laterL cs p n = [] then (cs.length : Int) else ixI 0 (laterL cs p n) 0 - 1) := by
  unfold m_interval
  show (if ((decide ((0 : Int) < n)) && (!(decide (p ∈ (ixI [] cs (n - (1 : Int))))))) = true then none else (some (n, (if (!decide (laterL cs p n = ([] : List Int))) = true then (ixI 0 (laterL cs p n) (0 : Int) - 1) else ((cs).length : Int))))) = _
  by_cases h : laterL cs p n = []
  · by_cases h2 : 0 < n ∧ p ∉ ixI [] cs (n - 1)
    · rw [if_pos h2, if_pos (by simpa using h2)]
    · rw [if_neg h2, if_neg (by simpa using h2), if_pos h, if_neg (by simp [h])]
  · by_cases h2 : 0 < n ∧ p ∉ ixI [] cs (n - 1)
    · rw [if_pos h2, if_pos (by simpa using h2)]
    · rw [if_neg h2, if_neg (by simpa using h2), if_neg h, if_pos (by simp [h])]
theorem interval_none {cs : List (List Str)} {p : Str} {n : Int} (h : m_interval cs p n = none) : ∀ k : Int, 0 ≤ k → m__law_last cs k p ≠ n := by
  intro k hk e
  rw [interval_eq] at h
  split at h
  · rename_i q
    exact q.2 (((last_iff hk).mp e).2.2.1 q.1)
  · cases h
theorem interval_some {cs : List (List Str)} {p : Str} {n : Int} {iv : Int × Int} (h0 : 0 ≤ n) (h1 : n ≤ cs.length) (h : m_interval cs p n = some iv) : iv.1 = n ∧ n ≤ iv.2 ∧ iv.2 ≤ cs.length ∧ ∀ k : Int, 0 ≤ k → k ≤ cs.length → (m__law_last cs k p = n ↔ iv.1 ≤ k ∧ k ≤ iv.2) := by
  rw [interval_eq] at h
  split at h
  · cases h
  rename_i q
  have e := Option.some.inj h
  subst e
  dsimp only
  have hin : 0 < n → p ∈ ixI [] cs (n - 1) := fun z => by
    by_cases y : p ∈ ixI [] cs (n - 1)
    · exact y
    · exact absurd ⟨z, y⟩ q
  cases hl : laterL cs p n with
  | nil =>
    rw [if_pos rfl]
    refine ⟨rfl, h1, Int.le_refl _, fun k k0 k1 => ?_⟩
    rw [last_iff k0]
    refine ⟨fun z => ⟨z.2.1, k1⟩, fun z => ⟨h0, z.1, hin, fun i a b c => ?_⟩⟩
    have : i + 1 ∈ laterL cs p n := mem_later.mpr ⟨by omega, by omega, by omega, by rw [show i + 1 - 1 = i from by omega]; exact c⟩
    rw [hl] at this; cases this
  | cons y r =>
    rw [if_neg (by simp)]
    have ey : ixI 0 (y :: r) 0 = y := by have := ixI_nat (d := (0 : Int)) (xs := y :: r) (i := 0) (by simp); simpa using this
    rw [ey]
    obtain ⟨a1, a2, a3, a4⟩ := mem_later.mp (show y ∈ laterL cs p n by rw [hl]; exact List.mem_cons_self)
    have least : ∀ z ∈ laterL cs p n, y ≤ z := fun z hz => by
      have inc := later_inc cs p n
      rw [hl] at inc hz
      rcases List.mem_cons.mp hz with e | e
      · omega
      · have := (List.pairwise_cons.mp inc).1 z e; omega
    refine ⟨rfl, by omega, by omega, fun k k0 k1 => ?_⟩
    rw [last_iff k0]
    refine ⟨fun z => ⟨z.2.1, ?_⟩, fun z => ⟨h0, z.1, hin, fun i a b c => ?_⟩⟩
    · by_cases w : k ≤ y - 1
      · exact w
      · exact absurd a4 (z.2.2.2 (y - 1) (by omega) (by omega))
    · have := least (i + 1) (mem_later.mpr ⟨by omega, by omega, by omega, by rw [show i + 1 - 1 = i from by omega]; exact c⟩)
      omega
/-! ## the verdict -/
theorem meets_iff {i j : Int × Int} : m_is_meeting i j = true ↔ i.1 ≤ i.2 ∧ i.1 ≤ j.2 ∧ j.1 ≤ i.2 ∧ j.1 ≤ j.2 := by
  unfold m_is_meeting
  rw [decide_eq_true_iff]
  split <;> split <;> omega
/-- the first k commits tell what is told -/
def Fit (cs : List (List Str)) (t : List (Str × Int)) (k : Int) : Prop := ∀ z, (tGet t z).isSome = true → m__law_last cs k z = (tGet t z).getD 0
def Iv (cs : List (List Str)) (t : List (Str × Int)) (z : Str) : Option (Int × Int) := m_interval cs z ((tGet t z).getD 0)
def Nums (cs : List (List Str)) (t : List (Str × Int)) : Prop := ∀ z, (tGet t z).isSome = true → 0 ≤ (tGet t z).getD 0 ∧ (tGet t z).getD 0 ≤ cs.length
inductive JS (cs : List (List Str)) (a : Int) (t : List (Str × Int)) : Vd → Prop
  | pre (lo hi : Int) : (∀ k, a ≤ k → k ≤ cs.length → (Fit cs t k ↔ lo ≤ k ∧ k ≤ hi)) → a ≤ lo → lo ≤ hi → hi ≤ cs.length → JS cs a t (.pre lo hi)
  | gone (x : Str) : (tGet t x).isSome = true → Iv cs t x = none → JS cs a t (.apart x (some x))
  | late (x : Str) (i : Int × Int) : (tGet t x).isSome = true → Iv cs t x = some i → m_is_meeting i (a, (cs.length : Int)) = false → (∀ z, (tGet t z).isSome = true → ∃ i, Iv cs t z = some i) → JS cs a t (.apart x none)
  | two (x y : Str) (i j : Int × Int) : (tGet t x).isSome = true → (tGet t y).isSome = true → x ≠ y → Iv cs t x = some i → Iv cs t y = some j → m_is_meeting j i = false → (∀ z, (tGet t z).isSome = true → ∃ i, Iv cs t z = some i ∧ m_is_meeting i (a, (cs.length : Int)) = true) → JS cs a t (.apart x (some y))
theorem lp_err {α R : Type} {f : Unit → α → Except R Unit} {r : R} : ∀ {xs : List α} {u : Unit}, lpR f xs u = .error r → ∃ x ∈ xs, f () x = .error r
  | [], _, h => by cases h
  | x :: xs, u, h => by
    unfold lpR at h
    cases e : f u x with
    | ok v =>
      rw [e] at h
      obtain ⟨y, h1, h2⟩ := lp_err h
      exact ⟨y, List.mem_cons_of_mem _ h1, h2⟩
    | error q =>
      rw [e] at h
      cases h
      exact ⟨x, List.mem_cons_self, e⟩
theorem lp_ok {α R : Type} {f : Unit → α → Except R Unit} : ∀ {xs : List α} {u v : Unit}, lpR f xs u = .ok v → ∀ x ∈ xs, f () x = .ok ()
  | [], _, _, _, x, hx => by cases hx
  | y :: xs, u, v, h, x, hx => by
    unfold lpR at h
    cases e : f u y with
    | ok w =>
      rw [e] at h
      rcases List.mem_cons.mp hx with q | q
      · rw [q]; exact e
      · exact lp_ok h x q
    | error q => rw [e] at h; cases h
theorem key_iff {t : List (Str × Int)} {z : Str} : z ∈ sortS (t.map (·.1)) ↔ (tGet t z).isSome = true := by
  refine ⟨key_some, fun h => ?_⟩
  rw [mem_sortS]
  obtain ⟨n, hn⟩ := Option.isSome_iff_exists.mp h
  exact List.mem_map.mpr ⟨(z, n), tGet_mem hn, rfl⟩
theorem cut_take {α : Type} {xs : List α} {i : Nat} (h : i ≤ xs.length) : cutL xs none (some (i : Int)) = xs.take i := by
  unfold cutL
  rw [HT.sIx_none, HT.sIx_nat, List.drop_zero, Nat.sub_zero, Nat.min_eq_left h]
def toldL (cs : List (List Str)) (t : List (Str × Int)) : List (Str × (Int × Int)) := nrw ((sortS (t.map (·.1))).map fun x1 => (x1, m_interval cs x1 ((tGet t x1).getD 0)))
theorem mem_told {cs : List (List Str)} {t : List (Str × Int)} {x : Str × (Int × Int)} : x ∈ toldL cs t ↔ (tGet t x.1).isSome = true ∧ x.2 = (Iv cs t x.1).getD (0, 0) := by
  unfold toldL nrw
  rw [List.map_map, List.mem_map]
  constructor
  · rintro ⟨z, h1, rfl⟩
    exact ⟨key_iff.mp h1, rfl⟩
  · rintro ⟨h1, h2⟩
    refine ⟨x.1, key_iff.mpr h1, ?_⟩
    obtain ⟨a, b⟩ := x
    simp only at h2
    rw [h2]; rfl
theorem told_inc (cs : List (List Str)) (t : List (Str × Int)) : (toldL cs t).Pairwise fun a b => ltS a.1 b.1 = true := by
  unfold toldL nrw
  rw [List.map_map]
  exact List.Pairwise.map _ (fun a b h => h) (asc_sortS _)
theorem judge_js {cs : List (List Str)} {a : Int} {t : List (Str × Int)} (hn : Nums cs t) (h0 : 0 ≤ a) (h1 : a ≤ cs.length) : JS cs a t (m_judge_contents cs a t) := by
  unfold m_judge_contents
  split
  · rename_i v1 e1
    have all1 : ∀ z, (tGet t z).isSome = true → ∃ i, Iv cs t z = some i := fun z hz => by
      have := lp_all e1 (z, Iv cs t z) (List.mem_map.mpr ⟨z, key_iff.mpr hz, rfl⟩)
      cases e : Iv cs t z with
      | none => rw [e] at this; cases this
      | some i => exact ⟨i, rfl⟩
    split
    · rename_i v2 e2
      have all2 : ∀ x ∈ toldL cs t, m_is_meeting x.2 (a, (cs.length : Int)) = true := fun x hx => by
        have := lp_all e2 x hx
        simpa using this
      have all3 : ∀ z, (tGet t z).isSome = true → ∃ i, Iv cs t z = some i ∧ m_is_meeting i (a, (cs.length : Int)) = true := fun z hz => by
        obtain ⟨i, hi⟩ := all1 z hz
        exact ⟨i, hi, all2 (z, i) (mem_told.mpr ⟨hz, by rw [hi]; rfl⟩)⟩
      split
      · rename_i v3 e3
        have pair : ∀ (i j : Nat) (hi : i < (toldL cs t).length) (hj : j < (toldL cs t).length), i < j → m_is_meeting (toldL cs t)[j].2 (toldL cs t)[i].2 = true := fun i j hi hj hij => by
          have hx : ((j : Int), (toldL cs t)[j]) ∈ enumT (toldL cs t) := (mem_enum (d := (("" : Str), ((0 : Int), (0 : Int))))).mpr ⟨by simp, by simp; exact hj, (ixI_nat hj).symm⟩
          have h1 := lp_ok e3 _ hx
          split at h1
          · rename_i e4
            have h2 := lp_ok e4 ((toldL cs t)[i]) (by
              show _ ∈ cutL (toldL cs t) none (some (j : Int))
              rw [cut_take (Nat.le_of_lt hj)]
              exact List.mem_iff_getElem.mpr ⟨i, by rw [List.length_take]; omega, List.getElem_take⟩)
            split at h2
            · cases h2
            · rename_i q; simpa using q
          · cases h1
        have cross : ∀ x ∈ toldL cs t, ∀ y ∈ toldL cs t, x.2.1 ≤ y.2.2 := fun x hx y hy => by
          obtain ⟨i, hi, ei⟩ := List.mem_iff_getElem.mp hx
          obtain ⟨j, hj, ej⟩ := List.mem_iff_getElem.mp hy
          rcases Nat.lt_trichotomy i j with h | h | h
          · have := meets_iff.mp (pair i j hi hj h)
            rw [ei, ej] at this; omega
          · subst h
            have := meets_iff.mp (all2 x hx)
            rw [← ej, ei]; omega
          · have := meets_iff.mp (pair j i hj hi h)
            rw [ei, ej] at this; omega
        have hrow : ∀ r, r ∈ ((a, (cs.length : Int)) :: ((toldL cs t).map (fun x => x.2) ++ [])) ↔ r = (a, (cs.length : Int)) ∨ ∃ x ∈ toldL cs t, x.2 = r := fun r => by simp
        change JS cs a t (Vd.pre (maxL (((a, (cs.length : Int)) :: ((toldL cs t).map (fun x => x.2) ++ [])).map fun x => x.1)) (minL (((a, (cs.length : Int)) :: ((toldL cs t).map (fun x => x.2) ++ [])).map fun x => x.2)))
        generalize ((a, (cs.length : Int)) :: ((toldL cs t).map (fun x => x.2) ++ [])) = rows at hrow ⊢
        have h00 : (a, (cs.length : Int)) ∈ rows := (hrow _).mpr (.inl rfl)
        have cr2 : ∀ u ∈ rows, ∀ v ∈ rows, u.1 ≤ v.2 := fun u hu v hv => by
          rcases (hrow u).mp hu with e | ⟨x, hx, e⟩ <;> rcases (hrow v).mp hv with e2 | ⟨y, hy, e2⟩ <;> subst e <;> subst e2
          · exact h1
          · have := meets_iff.mp (all2 y hy); exact this.2.2.1
          · have := meets_iff.mp (all2 x hx); exact this.2.1
          · exact cross x hx y hy
        have ne1 : (rows.map fun x => x.1) ≠ [] := fun e => by rw [List.map_eq_nil_iff] at e; rw [e] at h00; cases h00
        have ne2 : (rows.map fun x => x.2) ≠ [] := fun e => by rw [List.map_eq_nil_iff] at e; rw [e] at h00; cases h00
        obtain ⟨a1, a2⟩ := maxL_sp ne1
        obtain ⟨b1, b2⟩ := minL_sp ne2
        generalize maxL (rows.map fun x => x.1) = lo at a1 a2 ⊢
        generalize minL (rows.map fun x => x.2) = hi at b1 b2 ⊢
        obtain ⟨u, hu, eu⟩ := List.mem_map.mp a1
        obtain ⟨v, hv, ev⟩ := List.mem_map.mp b1
        have la : ∀ r ∈ rows, r.1 ≤ lo := fun r hr => a2 _ (List.mem_map.mpr ⟨r, hr, rfl⟩)
        have lb : ∀ r ∈ rows, hi ≤ r.2 := fun r hr => b2 _ (List.mem_map.mpr ⟨r, hr, rfl⟩)
        refine .pre lo hi (fun k k0 k1 => ⟨fun f => ?_, fun ⟨p1, p2⟩ z hz => ?_⟩) (la _ h00) (by have := cr2 u hu v hv; omega) (lb _ h00)
        · have key : ∀ r ∈ rows, r.1 ≤ k ∧ k ≤ r.2 := fun r hr => by
            rcases (hrow r).mp hr with e | ⟨x, hx, e⟩
            · rw [e]; exact ⟨k0, k1⟩
            · obtain ⟨m1, m2⟩ := mem_told.mp hx
              obtain ⟨i, hi⟩ := all1 _ m1
              obtain ⟨c1, c2⟩ := hn _ m1
              have := (interval_some c1 c2 hi).2.2.2 k (by omega) k1
              rw [hi] at m2
              rw [← e, m2]
              exact this.mp (f _ m1)
          exact ⟨by rw [← eu]; exact (key u hu).1, by rw [← ev]; exact (key v hv).2⟩
        · obtain ⟨i, hi⟩ := all1 _ hz
          obtain ⟨c1, c2⟩ := hn _ hz
          have hr : i ∈ rows := (hrow _).mpr (.inr ⟨(z, i), mem_told.mpr ⟨hz, by rw [hi]; rfl⟩, rfl⟩)
          have q1 := la i hr
          have q2 := lb i hr
          exact ((interval_some c1 c2 hi).2.2.2 k (by omega) k1).mpr ⟨by omega, by omega⟩
      · rename_i r e3
        obtain ⟨x, hx, he⟩ := lp_err e3
        split at he
        · cases he
        rename_i r2 e4
        cases he
        obtain ⟨y, hy, he⟩ := lp_err e4
        split at he
        · rename_i q
          cases he
          obtain ⟨m0, m1, m2⟩ := (mem_enum (d := (("" : Str), ((0 : Int), (0 : Int))))).mp hx
          obtain ⟨n, hn1⟩ := Int.eq_ofNat_of_zero_le m0
          have hlt : n < (toldL cs t).length := by rw [hn1] at m1; exact_mod_cast m1
          have ex : x.2 = (toldL cs t)[n] := by rw [m2, hn1]; exact ixI_nat hlt
          rw [hn1] at hy
          have hy : y ∈ (toldL cs t).take n := by rw [← cut_take (Nat.le_of_lt hlt)]; exact hy
          obtain ⟨j, hj, ey⟩ := List.mem_iff_getElem.mp hy
          rw [List.length_take] at hj
          rw [List.getElem_take] at ey
          have lt := List.pairwise_iff_getElem.mp (told_inc cs t) j n (by omega) hlt (by omega)
          rw [ey, ← ex] at lt
          have my := mem_told.mp (List.mem_of_mem_take hy)
          have mx := mem_told.mp (show x.2 ∈ toldL cs t from ex ▸ List.getElem_mem hlt)
          obtain ⟨i, hi⟩ := all1 _ my.1
          obtain ⟨i2, hi2⟩ := all1 _ mx.1
          refine .two y.1 x.2.1 i i2 my.1 mx.1 (fun e => by rw [e, ltS_irr] at lt; cases lt) hi hi2 ?_ all3
          rw [hi] at my
          rw [hi2] at mx
          rw [my.2, mx.2] at q
          simpa using q
        · cases he
    · rename_i r e2
      obtain ⟨x, hx, he⟩ := lp_err e2
      split at he
      · rename_i q
        cases he
        obtain ⟨m1, m2⟩ := mem_told.mp hx
        obtain ⟨i, hi⟩ := all1 _ m1
        refine .late x.1 i m1 hi ?_ all1
        rw [hi] at m2
        rw [m2] at q
        simpa using q
      · cases he
  · rename_i r e1
    obtain ⟨x, hx, he⟩ := lp_err e1
    split at he
    · rename_i q
      cases he
      obtain ⟨z, hz, rfl⟩ := List.mem_map.mp hx
      refine .gone z (key_iff.mp hz) ?_
      exact Option.isNone_iff_eq_none.mp q
    · cases he
end B
set_option Elab.async false
set_option linter.all false
set_option maxRecDepth 100000
set_option maxHeartbeats 1000000
namespace B
open PySem PySem.Spec PyProof.Rows L2 Z
section
variable {P : Program} {w : World} {K : PySem.W.Frag} {mg : Str → Option Value} {base : Heap} {CP CA : Addr}
structure Sh (P : Program) (w : World) (K : PySem.W.Frag) (mg : Str → Option Value) (base : Heap) (CP CA : Addr) : Prop where
  sp : MeD P w K mg base 5 CP "shows" ["self", "commits", "answered", "contents"] (relP (r_Prefix_shows CP))
  sa : MeD P w K mg base 4 CA "shows" ["self", "commits", "answered", "contents"] (relP (r_Apart_shows CA))
def showsV (v : Vd) (cs : List (List Str)) (a : Int) (t : List (Str × Int)) : Bool := match v with
  | .pre x y => m_Prefix_shows (x, y) cs a t
  | .apart x y => m_Apart_shows (x, y) cs a t
def ShOk (v : Vd) (cs : List (List Str)) (a : Int) (t : List (Str × Int)) : Prop := match v with
  | .pre _ _ => Ck cs a t
  | .apart x y => ApOk x y cs a t
section
variable {X : Cx} {σ : L2.St} {F W W1 W2 : Hp} {e a b c : Expr} {p pos apos : Pos} {v : Vd} {cs : List (List Str)} {n : Int} {t : List (Str × Int)}
theorem ev_showsV (Y : Cl X.K X.mg CP CA) (Ms : Sh X.prog X.w X.K X.mg X.base CP CA) (h : EvS X e σ F W (eVd CP CA v) W1) (hr : Room 5 X.A) (ha : EvS X a σ F W1 (eR false (eR true D.str) cs) W1) (hb : EvS X b σ F W1 (.int n) W1) (hd : EvS X c σ F W1 (eT Sum.inr D.int t) W1) (hp : ShOk v cs n t)
    {pl : Sem Bool} (hst : starEach [a, b, c] X.env = (false, eval a X.env) :: starEach [b, c] X.env := by rfl) (hs2 : starEach [b, c] X.env = (false, eval b X.env) :: starEach [c] X.env := by rfl) (hs3 : starEach [c] X.env = (false, eval c X.env) :: starEach [] X.env := by rfl) (hpl : (backTo pos (starEach [b, c] X.env)).any (·.1) = false := by rfl)
    (ht : eval (.Call (.Attribute e "shows" apos) [a, b, c] [] pos) X.env = (do
      let ov ← eval e X.env
      standAt apos.atName
      let (f, first) ← holding [ov] (getMethod ov "shows" pl)
      callWith pos f first (backTo pos (starEach [a, b, c] X.env)) (backToKw pos (keywordEach [] X.env))) := by rfl) : EvS X (.Call (.Attribute e "shows" apos) [a, b, c] [] pos) σ F W (.bl (showsV v cs n t)) W1 := by
  cases v with
  | pre x y => exact ev_meth (C := CP) h Y.p Ms.sp (hr.mono (by decide)) rfl (ea_cons ha (ea_cons hb (ea_cons hd ea_nil hs3) hs2) hst) (fun _ _ => ⟨⟨(x, y), cs, n, t, hp, rfl, rfl⟩, rfl⟩) hst hpl ht
  | apart x y => exact ev_meth (C := CA) h Y.a Ms.sa (hr.mono (by decide)) rfl (ea_cons ha (ea_cons hb (ea_cons hd ea_nil hs3) hs2) hst) (fun _ _ => ⟨⟨(x, y), cs, n, t, hp, rfl, rfl⟩, rfl⟩) hst hpl ht
theorem ev_commits {dl sa : Addr} {k : Nat} {ns : List Int} (C : FnD X.prog X.w X.K X.mg X.base 3 "_law_commits" ["draw", "most"] (r_commits X.K)) (hr : Room 3 X.A) (ha : EvS X a σ F (WK W dl sa k) (.ow dl) (WK W dl sa k)) (he : EvS X b σ F (WK W dl sa k) (.int n) (WK W dl sa k)) (hm : 0 ≤ n ∧ n ≤ 50) (hz : ns.length ≤ 63) (rs : Rep F (.ref sa) (eZ X.K ns)) (hg : Gl X "_law_commits" := by rfl)
    (h1 : starEach [a, b] X.env = (false, eval a X.env) :: starEach [b] X.env := by rfl) (h2 : starEach [b] X.env = (false, eval b X.env) :: starEach [] X.env := by rfl) (hpl : (backTo pos (starEach [b] X.env)).any (·.1) = false := by rfl) :
    EvS X (.Call (.Name "_law_commits" p) [a, b] [] pos) σ F (WK W dl sa k) (eR false (eR true D.str) (cmOf ns k n).1) (WK W dl sa (cmOf ns k n).2) :=
  ev_callG C hr (ea_cons ha (ea_cons he ea_nil h2) h1) (fun F1 ex => ⟨dl, sa, ns, k, n, rfl, ⟨hm.1, hm.2, hz⟩, WK_at, rs.mono ex, rfl, by unfold WK; rw [upd_upd]⟩) hg (by decide) h1 hpl
end
end
end B
set_option Elab.async false
set_option linter.all false
set_option maxRecDepth 100000
set_option maxHeartbeats 1000000
namespace B
open PySem PySem.Spec PyProof.Rows L2 Z
abbrev s4L : List Str := (("a" : Str) :: (("b" : Str) :: (("c" : Str) :: (("d" : Str) :: ([] : List Str)))))
theorem s4_asc : AscS s4L := by decide +kernel
theorem s4_nm : ∀ z ∈ s4L, z ∈ Nm8 := by decide +kernel
theorem s4_pg {p : List Str} (h : p.Sublist s4L) : Pg p := ⟨fun z hz => s4_nm z (h.subset hz), s4_asc.sublist h, by have := h.length_le; exact Nat.le_trans this (by decide)⟩
theorem s4_nd {p : List Str} (h : p.Sublist s4L) : p.Nodup := asc_nd (s4_asc.sublist h)
theorem s4_len {p : List Str} (h : p.Sublist s4L) : p.length ≤ 4 := h.length_le
section
variable {κ α : Type} [DecidableEq κ]
theorem tGet_no {k : κ} : ∀ {t : List (κ × α)}, tGet t k = none ↔ k ∉ t.map (·.1)
  | [] => by simp [tGet]
  | q :: r => by
    unfold tGet
    split
    · rename_i e; simp [e]
    · rename_i e
      rw [tGet_no (t := r), List.map_cons, List.mem_cons]
      constructor
      · rintro h (h2 | h2)
        · exact e h2.symm
        · exact h h2
      · exact fun h h2 => h (.inr h2)
theorem tGet_some {k : κ} {t : List (κ × α)} : (tGet t k).isSome = true ↔ k ∈ t.map (·.1) := by
  rw [← Decidable.not_iff_not, ← tGet_no]
  cases tGet t k <;> simp
theorem tOf_aux : ∀ (l acc : List (κ × α)), ((acc ++ l).map (·.1)).Nodup → l.foldl (fun acc p => tPut acc p.1 p.2) acc = acc ++ l
  | [], acc, _ => by simp
  | q :: l, acc, h => by
    rw [List.foldl_cons]
    have hq : tGet acc q.1 = none := by
      rw [tGet_no]
      intro hm
      rw [List.map_append, List.nodup_append] at h
      exact h.2.2 _ hm _ List.mem_cons_self rfl
    have e : tPut acc q.1 q.2 = acc ++ [q] := by unfold tPut; rw [hq]; simp
    rw [e, tOf_aux l (acc ++ [q]) (by simpa using h)]
    simp
theorem tOf_nd {l : List (κ × α)} (h : (l.map (·.1)).Nodup) : tOf l = l := by
  unfold tOf
  have := tOf_aux l [] (by simpa using h)
  simpa using this
theorem tGet_map (f : κ → α) : ∀ (ps : List κ) (z : κ), tGet (ps.map fun p => (p, f p)) z = if z ∈ ps then some (f z) else none
  | [], z => by simp [tGet]
  | q :: ps, z => by
    rw [List.map_cons]
    unfold tGet
    by_cases e : q = z
    · subst e; simp
    · rw [if_neg e, tGet_map f ps z]
      simp [List.mem_cons, Ne.symm e]
theorem tGet_of {t : List (κ × α)} (h : (t.map (·.1)).Nodup) {kv : κ × α} (hk : kv ∈ t) : tGet t kv.1 = some kv.2 := by
  induction t with
  | nil => cases hk
  | cons q r ih =>
    rw [List.map_cons, List.nodup_cons] at h
    unfold tGet
    rcases List.mem_cons.mp hk with e | e
    · subst e; simp
    · rw [if_neg (fun e2 => h.1 (List.mem_map.mpr ⟨kv, e, e2.symm⟩))]
      exact ih h.2 e
theorem tGet_app (t u : List (κ × α)) (z : κ) : tGet (t ++ u) z = (tGet t z).or (tGet u z) := by
  induction t with
  | nil => simp [tGet]
  | cons q r ih =>
    show (if q.1 = z then some q.2 else tGet (r ++ u) z) = (if q.1 = z then some q.2 else tGet r z).or (tGet u z)
    split
    · simp
    · exact ih
end
/-! ## right arguments -/
theorem ck_nums {cs : List (List Str)} {a : Int} {t : List (Str × Int)} (h : Ck cs a t) : Nums cs t := fun z hz => ⟨(ck_num h hz).2.1, (ck_num h hz).2.2⟩
theorem judge_of {cs : List (List Str)} {a : Int} {t : List (Str × Int)} (h : Ck cs a t) : JS cs a t (m_judge_contents cs a t) := judge_js (ck_nums h) h.lo h.hi
theorem js_fit {cs : List (List Str)} {a : Int} {t : List (Str × Int)} {v : Vd} (h : JS cs a t v) (hn : Nums cs t) (h0 : 0 ≤ a) {k : Int} (k0 : a ≤ k) (k1 : k ≤ cs.length) (hf : Fit cs t k) : v.isPre = true := by
  have at_k : ∀ z i, (tGet t z).isSome = true → Iv cs t z = some i → i.1 ≤ k ∧ k ≤ i.2 := fun z i hz hi => by
    obtain ⟨c1, c2⟩ := hn z hz
    exact ((interval_some c1 c2 hi).2.2.2 k (by omega) k1).mp (hf z hz)
  cases h with
  | pre lo hi => rfl
  | gone x hx hi => exact absurd (hf x hx) (interval_none hi k (by omega))
  | late x i hx hi hm =>
    have := at_k x i hx hi
    have e : m_is_meeting i (a, (cs.length : Int)) = true := meets_iff.mpr ⟨by omega, by show i.1 ≤ (cs.length : Int); omega, by show a ≤ i.2; omega, by show a ≤ (cs.length : Int); omega⟩
    rw [e] at hm; cases hm
  | two x y i j hx hy ne hi hj hm =>
    have h1 := at_k x i hx hi
    have h2 := at_k y j hy hj
    have e : m_is_meeting j i = true := meets_iff.mpr ⟨by omega, by omega, by omega, by omega⟩
    rw [e] at hm; cases hm
theorem js_pre {cs : List (List Str)} {a : Int} {t : List (Str × Int)} {lo hi : Int} (h : JS cs a t (.pre lo hi)) : (∀ k, a ≤ k → k ≤ cs.length → (Fit cs t k ↔ lo ≤ k ∧ k ≤ hi)) ∧ a ≤ lo ∧ lo ≤ hi ∧ hi ≤ cs.length := by
  cases h with
  | pre _ _ h1 h2 h3 h4 => exact ⟨h1, h2, h3, h4⟩
theorem js_eq {cs : List (List Str)} {a : Int} {t : List (Str × Int)} {v : Vd} {lo hi : Int} (h : JS cs a t v) (hn : Nums cs t) (h0 : 0 ≤ a) (h1 : a ≤ lo) (h2 : lo ≤ hi) (h3 : hi ≤ cs.length) (hf : ∀ k, a ≤ k → k ≤ cs.length → (Fit cs t k ↔ lo ≤ k ∧ k ≤ hi)) : v = .pre lo hi := by
  have hp := js_fit h hn h0 h1 (by omega) ((hf lo h1 (by omega)).mpr ⟨Int.le_refl _, h2⟩)
  cases v with
  | apart x y => cases hp
  | pre l u =>
    obtain ⟨g1, g2, g3, g4⟩ := js_pre h
    have a1 := ((g1 l g2 (by omega)).symm.trans (hf l g2 (by omega))).mp ⟨by omega, by omega⟩
    have a2 := ((g1 u (by omega) g4).symm.trans (hf u (by omega) g4)).mp ⟨by omega, by omega⟩
    have a3 := ((g1 lo h1 (by omega)).symm.trans (hf lo h1 (by omega))).mpr ⟨by omega, by omega⟩
    have a4 := ((g1 hi (by omega) h3).symm.trans (hf hi (by omega) h3)).mpr ⟨by omega, by omega⟩
    rw [show l = lo from by omega, show u = hi from by omega]
theorem js_iff {cs : List (List Str)} {a : Int} {t : List (Str × Int)} {v : Vd} (h : JS cs a t v) (hn : Nums cs t) (h0 : 0 ≤ a) : v.isPre = true ↔ ∃ k, a ≤ k ∧ k ≤ (cs.length : Int) ∧ Fit cs t k := by
  constructor
  · intro hp
    cases v with
    | apart x y => cases hp
    | pre l u =>
      obtain ⟨g1, g2, g3, g4⟩ := js_pre h
      exact ⟨l, g2, by omega, (g1 l g2 (by omega)).mpr ⟨by omega, by omega⟩⟩
  · rintro ⟨k, k0, k1, f⟩
    exact js_fit h hn h0 k0 k1 f
/-- a verdict that says: the first lo to hi commits -/
structure FD (cs : List (List Str)) (a : Int) (t : List (Str × Int)) (lo hi : Int) : Prop where
  eq : m_judge_contents cs a t = .pre lo hi
  ff : ∀ k, a ≤ k → k ≤ cs.length → (Fit cs t k ↔ lo ≤ k ∧ k ≤ hi)
  lo1 : a ≤ lo
  lh : lo ≤ hi
  h1 : hi ≤ cs.length
theorem fd_of {cs : List (List Str)} {a : Int} {t : List (Str × Int)} (h : Ck cs a t) {k : Int} (k0 : a ≤ k) (k1 : k ≤ cs.length) (hf : Fit cs t k) : ∃ lo hi, FD cs a t lo hi := by
  have hj := judge_of h
  have hp := js_fit hj (ck_nums h) h.lo k0 k1 hf
  cases e : m_judge_contents cs a t with
  | apart x y => rw [e] at hp; cases hp
  | pre lo hi =>
    rw [e] at hj
    obtain ⟨g1, g2, g3, g4⟩ := js_pre hj
    exact ⟨lo, hi, e, g1, g2, g3, g4⟩
theorem ck_mk {cs : List (List Str)} {a : Int} {t : List (Str × Int)} (hc : ∀ p ∈ cs, Pg p) (hl : cs.length ≤ 50) (h0 : 0 ≤ a) (h1 : a ≤ cs.length) (hk : ∀ kv ∈ t, kv.1 ∈ Nm8 ∧ 0 ≤ kv.2 ∧ kv.2 ≤ cs.length) (nd : (t.map (·.1)).Nodup) (sz : t.length ≤ 8) : Ck cs a t := ⟨hc, hl, h0, h1, fun kv h => (hk kv h).1, fun kv h => (hk kv h).2, nd, sz⟩
theorem conts_nd {α : Type} {ps : List Str} {f : Str → α} (nd : ps.Nodup) : ((ps.map fun p => (p, f p)).map (·.1)).Nodup := by
  rw [List.map_map, show ((fun x : Str × α => x.1) ∘ fun p => (p, f p)) = id from rfl, List.map_id]; exact nd
theorem lc_eq {cs : List (List Str)} {k : Int} {ps : List Str} (nd : ps.Nodup) : m__law_contents cs k ps = ps.map fun p => (p, m__law_last cs k p) := tOf_nd (conts_nd nd)
theorem last_in {cs : List (List Str)} {k : Int} {p : Str} (h : 0 ≤ k) : 0 ≤ m__law_last cs k p ∧ m__law_last cs k p ≤ k := ⟨(last_is h).1, (last_is h).2.1⟩
/-- what the law draws -/
structure Dt (cs : List (List Str)) (many a : Int) (sm : List Str) (whole : List (Str × Int)) : Prop where
  cm : ∀ p ∈ cs, p.Sublist s4L
  cl : cs.length ≤ 8
  m0 : 0 ≤ many
  m1 : many ≤ cs.length
  a0 : 0 ≤ a
  a1 : a ≤ many
  sb : sm.Sublist s4L
  wh : m__law_contents cs many sm = whole
section
variable {cs : List (List Str)} {many a : Int} {sm : List Str} {whole : List (Str × Int)}
theorem Dt.ck {ps : List Str} {k b : Int} (X : Dt cs many a sm whole) (hp : ps.Sublist s4L) (k0 : 0 ≤ k) (k1 : k ≤ cs.length) (b0 : 0 ≤ b) (b1 : b ≤ cs.length) : Ck cs b (m__law_contents cs k ps) := by
  rw [lc_eq (s4_nd hp)]
  refine ck_mk (fun p h => s4_pg (X.cm p h)) (by have := X.cl; omega) b0 b1 (fun kv h => ?_) (conts_nd (s4_nd hp)) (by rw [List.length_map]; have := s4_len hp; omega)
  obtain ⟨p, h1, rfl⟩ := List.mem_map.mp h
  have := last_in (cs := cs) (p := p) k0
  exact ⟨s4_nm p (hp.subset h1), this.1, by show m__law_last cs k p ≤ _; omega⟩
theorem Dt.ckw (X : Dt cs many a sm whole) : Ck cs a whole := X.wh ▸ X.ck X.sb X.m0 X.m1 X.a0 (by have := X.a1; have := X.m1; omega)
theorem fit_lc {ps : List Str} {k j : Int} (nd : ps.Nodup) : Fit cs (m__law_contents cs k ps) j ↔ ∀ p ∈ ps, m__law_last cs j p = m__law_last cs k p := by
  rw [lc_eq nd]
  unfold Fit
  constructor
  · intro h p hp
    have := h p (by rw [tGet_map, if_pos hp]; rfl)
    rw [this, tGet_map, if_pos hp]; rfl
  · intro h z hz
    rw [tGet_map] at hz ⊢
    by_cases e : z ∈ ps
    · rw [if_pos e]; exact h z e
    · rw [if_neg e] at hz; cases hz
theorem Dt.fit (X : Dt cs many a sm whole) : Fit cs whole many := by
  rw [← X.wh, fit_lc (s4_nd X.sb)]
  exact fun p _ => rfl
theorem found_pre (X : Dt cs many a sm whole) : ∃ lo hi, FD cs a whole lo hi := fd_of X.ckw X.a1 X.m1 X.fit
theorem teq_fit {ps : List Str} {t : List (Str × Int)} {k : Int} (nd : ps.Nodup) (ht : t.map (·.1) = ps) : tEq (m__law_contents cs k ps) t = true ↔ Fit cs t k := by
  have hnd : (t.map (·.1)).Nodup := by rw [ht]; exact nd
  rw [lc_eq nd]
  unfold tEq
  rw [Bool.and_eq_true, decide_eq_true_iff, List.all_eq_true]
  constructor
  · rintro ⟨_, h⟩ z hz
    have hm : z ∈ ps := ht ▸ tGet_some.mp hz
    have := h (z, m__law_last cs k z) (List.mem_map.mpr ⟨z, hm, rfl⟩)
    rw [decide_eq_true_iff] at this
    rw [this]; rfl
  · intro h
    refine ⟨by rw [List.length_map, ← ht, List.length_map], fun q hq => ?_⟩
    obtain ⟨z, hz, rfl⟩ := List.mem_map.mp hq
    have hs : (tGet t z).isSome = true := tGet_some.mpr (ht ▸ hz)
    have := h z hs
    rw [decide_eq_true_iff]
    obtain ⟨n, hn⟩ := Option.isSome_iff_exists.mp hs
    show tGet t z = some (m__law_last cs k z)
    rw [this, hn]; rfl
theorem Dt.keys (X : Dt cs many a sm whole) : whole.map (·.1) = sm := by
  rw [← X.wh, lc_eq (s4_nd X.sb), List.map_map]
  exact (by simp [Function.comp_def])
/-- the numbers that fit -/
theorem rg_inc (lo hi : Int) : (rg lo hi).Pairwise (· < ·) := by
  unfold rg
  refine List.Pairwise.map _ (fun a b h => ?_) List.pairwise_lt_range
  omega
theorem fits_rg {P : Int → Bool} {a len lo hi : Int} (h1 : a ≤ lo) (h3 : hi ≤ len) (hP : ∀ k, a ≤ k → k ≤ len → (P k = true ↔ lo ≤ k ∧ k ≤ hi)) : ((rg a (len + 1)).filter P).map (fun x => x) = rg lo (hi + 1) := by
  rw [List.map_id']
  refine asc_eq ((rg_inc _ _).filter _) (rg_inc _ _) fun k => ?_
  rw [List.mem_filter, rg_mem, rg_mem]
  constructor
  · rintro ⟨⟨p1, p2⟩, p3⟩
    have := (hP k p1 (by omega)).mp p3
    omega
  · rintro ⟨p1, p2⟩
    exact ⟨⟨by omega, by omega⟩, (hP k (by omega) (by omega)).mpr ⟨by omega, by omega⟩⟩
theorem rg_len2 {lo hi : Int} : (rg lo hi).length = (hi - lo).toNat := rg_len ..
theorem rg_first {lo hi : Int} (h : lo ≤ hi) : ixI 0 (rg lo (hi + 1)) 0 = lo := by
  rw [ixI_pos (Int.le_refl _) (by rw [rg_len2]; omega)]
  rw [List.getD_eq_getElem?_getD, rg_get (by simp; omega)]
  simp
theorem rg_last {lo hi : Int} (h : lo ≤ hi) : ixI 0 (rg lo (hi + 1)) (-1) = hi := by
  have hl : (rg lo (hi + 1)).length = (hi - lo).toNat + 1 := by rw [rg_len2]; omega
  unfold ixI atI ixN
  rw [if_neg (by decide), if_pos (by rw [hl]; omega), hl]
  show ((rg lo (hi + 1))[((-1 : Int) + ((hi - lo).toNat + 1 : Nat)).toNat]?).getD 0 = hi
  rw [show ((-1 : Int) + ((hi - lo).toNat + 1 : Nat)).toNat = (hi - lo).toNat from by omega, rg_get (by omega)]
  simp; omega
end
end B
set_option Elab.async false
set_option linter.all false
set_option maxRecDepth 100000
set_option maxHeartbeats 1000000
namespace B
open PySem PySem.Spec PyProof.Rows L2 Z
theorem cm_facts (ns : List Int) (k : Nat) : (∀ p ∈ (cmOf ns k (8 : Int)).1, p.Sublist s4L) ∧ (cmOf ns k (8 : Int)).1.length ≤ 8 := by
  have run : ∀ i, ∀ p ∈ (cmRun ns k i).1, p.Sublist s4L := by
    intro i
    induction i with
    | zero => intro p hp; cases hp
    | succ i ih =>
      intro p hp
      have hp : p ∈ (cmRun ns k i).1 ++ [(cmRow ns (cmRun ns k i).2).1] := hp
      rcases List.mem_append.mp hp with h | h
      · exact ih p h
      · rw [List.mem_singleton.mp h]; exact lcK_sub (fun _ _ => rfl) _ _
  refine ⟨run _, ?_⟩
  unfold cmOf
  rw [cmRun_len]
  have := tk_in ns k (many := 8 + 1) (by decide)
  omega
/-! ## the same pages, the same last commit -/
theorem last_congr {cs ds : List (List Str)} {k : Int} {p q : Str} (hk : 0 ≤ k) (h : ∀ i, 0 ≤ i → i < k → (p ∈ ixI [] cs i ↔ q ∈ ixI [] ds i)) : m__law_last cs k p = m__law_last ds k q := by
  rw [last_iff hk]
  obtain ⟨a1, a2, a3, a4⟩ := last_is (cs := ds) (p := q) hk
  refine ⟨a1, a2, fun z => (h _ (by omega) (by omega)).mpr (a3 z), fun i b c => fun e => a4 i b c ((h i (by omega) c).mp e)⟩
theorem ixI_app {cs : List (List Str)} {r : List Str} {i : Int} (h0 : 0 ≤ i) (h1 : i < cs.length) : ixI [] (cs ++ [r]) i = ixI [] cs i := by
  rw [ixI_pos h0 (by rw [List.length_append]; simp; omega), ixI_pos h0 h1, List.getD_eq_getElem?_getD, List.getD_eq_getElem?_getD, List.getElem?_append_left (by omega)]
theorem ixI_end {cs : List (List Str)} {r : List Str} : ixI [] (cs ++ [r]) (cs.length : Int) = r := by
  rw [ixI_pos (by omega) (by rw [List.length_append]; simp; omega), List.getD_eq_getElem?_getD]
  simp
theorem last_app {cs : List (List Str)} {r : List Str} {k : Int} {p : Str} (hk : 0 ≤ k) (h1 : k ≤ cs.length) : m__law_last (cs ++ [r]) k p = m__law_last cs k p :=
  last_congr hk fun i a b => by rw [ixI_app a (by omega)]
theorem last_end {cs : List (List Str)} {r : List Str} {p : Str} : m__law_last (cs ++ [r]) ((cs.length : Int) + 1) p = if p ∈ r then (cs.length : Int) + 1 else m__law_last cs cs.length p := by
  rw [last_iff (by omega)]
  split
  · rename_i h
    refine ⟨by omega, by omega, fun _ => by rw [show (cs.length : Int) + 1 - 1 = cs.length from by omega, ixI_end]; exact h, fun i a b => by omega⟩
  · rename_i h
    obtain ⟨a1, a2, a3, a4⟩ := last_is (cs := cs) (p := p) (k := (cs.length : Int)) (by omega)
    refine ⟨a1, by omega, fun z => by rw [ixI_app (by omega) (by omega)]; exact a3 z, fun i b c => ?_⟩
    by_cases e : i < cs.length
    · rw [ixI_app (by omega) e]; exact a4 i b e
    · rw [show i = cs.length from by omega, ixI_end]; exact h
theorem fit_kv {cs : List (List Str)} {t : List (Str × Int)} {k : Int} (nd : (t.map (·.1)).Nodup) : Fit cs t k ↔ ∀ kv ∈ t, m__law_last cs k kv.1 = kv.2 := by
  unfold Fit
  constructor
  · intro h kv hk
    have := tGet_of nd hk
    rw [h kv.1 (by rw [this]; rfl), this]; rfl
  · intro h z hz
    obtain ⟨n, hn⟩ := Option.isSome_iff_exists.mp hz
    rw [hn]; exact h _ (tGet_mem hn)
section
variable {cs : List (List Str)} {many a : Int} {sm : List Str} {whole : List (Str × Int)} {flo fhi : Int}
theorem Dt.ck0 (X : Dt cs many a sm whole) : Ck cs (0 : Int) ([] : List (Str × Int)) := ck_mk (fun p h => s4_pg (X.cm p h)) (by have := X.cl; omega) (Int.le_refl _) (by omega) (fun kv h => by cases h) List.nodup_nil (by simp)
theorem Dt.wnd (X : Dt cs many a sm whole) : (whole.map (·.1)).Nodup := by rw [X.keys]; exact s4_nd X.sb
theorem Dt.wsome (X : Dt cs many a sm whole) : ∀ z, z ∈ sm → (tGet whole z).isSome = true := fun z hz => tGet_some.mpr (by rw [X.keys]; exact hz)
theorem fits_eq (X : Dt cs many a sm whole) (F : FD cs a whole flo fhi) : (((rg a ((cs.length : Int) + (1 : Int))).filter fun x11 => (tEq (m__law_contents cs x11 sm) whole)).map fun x11 => x11) = rg flo (fhi + 1) :=
  fits_rg F.lo1 F.h1 fun k k0 k1 => by rw [teq_fit (s4_nd X.sb) X.keys]; exact F.ff k k0 k1
theorem empty_eq (X : Dt cs many a sm whole) : m_judge_contents cs (0 : Int) ([] : List (Str × Int)) = Vd.pre (0 : Int) (cs.length : Int) :=
  js_eq (judge_of X.ck0) (ck_nums X.ck0) (Int.le_refl _) (Int.le_refl _) (by omega) (Int.le_refl _) fun k k0 k1 => ⟨fun _ => ⟨k0, k1⟩, fun _ z hz => by cases hz⟩
theorem nv130 (X : Dt cs many a sm whole) (F : FD cs a whole flo fhi) : ((!decide ((Vd.pre flo fhi) = (Vd.pre (ixI 0 (rg flo (fhi + 1)) (0 : Int)) (ixI 0 (rg flo (fhi + 1)) (-(1 : Int)))))) || ((!(decide (many ∈ (rg flo (fhi + 1))))) || ((!(showsV (Vd.pre flo fhi) cs a whole)) || (!decide ((m_judge_contents (cs) (0 : Int) ([] : (List (Str × Int)))) = (Vd.pre (0 : Int) ((cs).length : Int))))))) = false := by
  have h1 : showsV (Vd.pre flo fhi) cs a whole = true := decide_eq_true F.eq
  have h2 := (F.ff many X.a1 X.m1).mp X.fit
  rw [rg_first F.lh, show (-(1 : Int)) = -1 from rfl, rg_last F.lh, h1, empty_eq X, decide_eq_true (rg_mem.mpr ⟨h2.1, by omega⟩ : many ∈ rg flo (fhi + 1))]
  simp
/-! ### fewer pages -/
def lessP (sm : List Str) (pg : Str) : List Str := ((sm).filter fun x26 => (!decide (x26 = pg))).map fun x26 => x26
theorem less_sub (pg : Str) : (lessP sm pg).Sublist sm := by unfold lessP; rw [List.map_id']; exact List.filter_sublist
theorem Dt.ckless (X : Dt cs many a sm whole) {pg : Str} {less : List (Str × Int)} (h : m__law_contents cs many (((sm).filter fun x26 => (!decide (x26 = pg))).map fun x26 => x26) = less) : Ck cs a less :=
  h ▸ X.ck ((less_sub pg).trans X.sb) X.m0 X.m1 X.a0 (by have := X.a1; have := X.m1; omega)
theorem wider_pre (X : Dt cs many a sm whole) (F : FD cs a whole flo fhi) {pg : Str} {less : List (Str × Int)} (h : m__law_contents cs many (((sm).filter fun x26 => (!decide (x26 = pg))).map fun x26 => x26) = less) : ∃ lo hi, m_judge_contents cs a less = .pre lo hi ∧ lo ≤ flo ∧ fhi ≤ hi := by
  have hsub := less_sub (sm := sm) pg
  have hf : ∀ k, Fit cs whole k → Fit cs less k := fun k f => by
    rw [← X.wh, fit_lc (s4_nd X.sb)] at f
    rw [← h]
    exact (fit_lc (s4_nd (hsub.trans X.sb))).mpr fun p hp => f p (hsub.subset hp)
  obtain ⟨lo, hi, G⟩ := fd_of (X.ckless h) X.a1 X.m1 (hf many X.fit)
  have g1 := (G.ff flo F.lo1 (by have := F.lh; have := F.h1; omega)).mp (hf _ ((F.ff flo F.lo1 (by have := F.lh; have := F.h1; omega)).mpr ⟨Int.le_refl _, F.lh⟩))
  have g2 := (G.ff fhi (by have := F.lo1; have := F.lh; omega) F.h1).mp (hf _ ((F.ff fhi (by have := F.lo1; have := F.lh; omega) F.h1).mpr ⟨F.lh, Int.le_refl _⟩))
  exact ⟨lo, hi, G.eq, g1.1, g2.2⟩
theorem nv135 {wlo whi : Int} (h1 : wlo ≤ flo) (h2 : fhi ≤ whi) : ((!((Vd.pre wlo whi)).isPre) || ((decide (((Vd.pre flo fhi)).low.1 < ((Vd.pre wlo whi)).low.1)) || (decide (((Vd.pre wlo whi)).low.2 < ((Vd.pre flo fhi)).low.2)))) = false := by
  show ((!true) || ((decide (flo < wlo)) || (decide (whi < fhi)))) = false
  rw [decide_eq_false (by omega), decide_eq_false (by omega)]; rfl
/-! ### two sets of pages -/
structure Rs (sm rest : List Str) : Prop where
  sub : rest.Sublist s4L
  off : ∀ z ∈ rest, z ∉ sm
theorem rest_of (X : Dt cs many a sm whole) {rest : List Str} (h : (((s4L).filter fun x34 => (!(decide (x34 ∈ sm)))).map fun x34 => x34) = rest) : rest.Sublist s4L ∧ ∀ z ∈ rest, z ∉ sm := by
  rw [List.map_id'] at h
  subst h
  exact ⟨List.filter_sublist, fun z hz => by simpa using (List.mem_filter.mp hz).2⟩
section
variable {rest : List Str} {lk : Int} {late : List (Str × Int)}
theorem Dt.cklate (X : Dt cs many a sm whole) (R : rest.Sublist s4L ∧ ∀ z ∈ rest, z ∉ sm) (hk : 0 ≤ lk ∧ lk < (cs.length : Int) + 1) (h : m__law_contents cs lk rest = late) : Ck cs a late :=
  h ▸ X.ck R.1 hk.1 (by omega) X.a0 (by have := X.a1; have := X.m1; omega)
theorem late_keys (R : rest.Sublist s4L ∧ ∀ z ∈ rest, z ∉ sm) (h : m__law_contents cs lk rest = late) : late.map (·.1) = rest := by
  rw [← h, lc_eq (s4_nd R.1), List.map_map]
  exact (by simp [Function.comp_def])
theorem both_nd (X : Dt cs many a sm whole) (R : rest.Sublist s4L ∧ ∀ z ∈ rest, z ∉ sm) (h : m__law_contents cs lk rest = late) : ((whole ++ late).map (·.1)).Nodup := by
  rw [List.map_append, X.keys, late_keys R h, List.nodup_append]
  exact ⟨s4_nd X.sb, s4_nd R.1, fun x hx y hy e => R.2 y hy (e ▸ hx)⟩
theorem Dt.ckboth (X : Dt cs many a sm whole) (R : rest.Sublist s4L ∧ ∀ z ∈ rest, z ∉ sm) (hk : 0 ≤ lk ∧ lk < (cs.length : Int) + 1) (h : m__law_contents cs lk rest = late) : Ck cs a (tOf (whole ++ late)) := by
  rw [tOf_nd (both_nd X R h)]
  have k1 := X.ckw
  have k2 := X.cklate R hk h
  refine ck_mk k1.pg k1.len k1.lo k1.hi (fun kv hm => ?_) (both_nd X R h) ?_
  · rcases List.mem_append.mp hm with e | e
    · exact ⟨k1.nm kv e, k1.nn kv e⟩
    · exact ⟨k2.nm kv e, k2.nn kv e⟩
  · rw [List.length_append, ← List.length_map (f := (·.1)), X.keys, ← List.length_map (f := (·.1)) (as := late), late_keys R h]
    have := s4_len X.sb; have := s4_len R.1; omega
theorem fit_both (X : Dt cs many a sm whole) (R : rest.Sublist s4L ∧ ∀ z ∈ rest, z ∉ sm) (h : m__law_contents cs lk rest = late) (k : Int) : Fit cs (tOf (whole ++ late)) k ↔ Fit cs whole k ∧ Fit cs late k := by
  have nd := both_nd X R h
  rw [tOf_nd nd, fit_kv nd, fit_kv X.wnd, fit_kv (by rw [late_keys R h]; exact s4_nd R.1)]
  constructor
  · exact fun f => ⟨fun kv hk => f kv (List.mem_append_left _ hk), fun kv hk => f kv (List.mem_append_right _ hk)⟩
  · rintro ⟨f, g⟩ kv hk
    rcases List.mem_append.mp hk with e | e
    · exact f kv e
    · exact g kv e
theorem js_key {t : List (Str × Int)} {x : Str} {y : Option Str} (h : JS cs a t (.apart x y)) : (tGet t x).isSome = true ∧ ∀ z, y = some z → (tGet t z).isSome = true := by
  cases h with
  | gone _ h1 => exact ⟨h1, fun z e => by cases e; exact h1⟩
  | late _ _ h1 => exact ⟨h1, fun z e => by cases e⟩
  | two _ y _ _ h1 h2 => exact ⟨h1, fun z e => by cases e; exact h2⟩
theorem other_of (X : Dt cs many a sm whole) (F : FD cs a whole flo fhi) (R : rest.Sublist s4L ∧ ∀ z ∈ rest, z ∉ sm) (hk : 0 ≤ lk ∧ lk < (cs.length : Int) + 1) (h : m__law_contents cs lk rest = late) {other both : Vd} (ho : m_judge_contents cs a late = other) (hb : m_judge_contents cs a (tOf (whole ++ late)) = both) :
    other.isPre = false → both.isPre = false ∧ other.two.1 ∉ sm := fun q => by
  have jo := judge_of (X.cklate R hk h)
  have jb := judge_of (X.ckboth R hk h)
  rw [ho] at jo
  rw [hb] at jb
  have no := js_iff jo (ck_nums (X.cklate R hk h)) X.a0
  have nb := js_iff jb (ck_nums (X.ckboth R hk h)) X.a0
  constructor
  · cases e : both.isPre with
    | false => rfl
    | true =>
      obtain ⟨k, k0, k1, f⟩ := nb.mp e
      rw [no.mpr ⟨k, k0, k1, ((fit_both X R h k).mp f).2⟩] at q
      cases q
  · cases other with
    | pre x y => cases q
    | apart x y =>
      have := tGet_some.mp (js_key jo).1
      rw [late_keys R h] at this
      exact R.2 _ this
theorem nv144 {other both : Vd} (hO : other.isPre = false → both.isPre = false ∧ other.two.1 ∉ sm) (q : other.isPre = false) : ((both).isPre || ((!((other).two.2).isNone) && (decide ((other).two.1 ∈ sm)))) = false := by
  obtain ⟨h1, h2⟩ := hO q
  rw [h1, decide_eq_false h2]; simp
theorem both_of (X : Dt cs many a sm whole) (F : FD cs a whole flo fhi) (R : rest.Sublist s4L ∧ ∀ z ∈ rest, z ∉ sm) (hk : 0 ≤ lk ∧ lk < (cs.length : Int) + 1) (h : m__law_contents cs lk rest = late) {other both : Vd} (ho : m_judge_contents cs a late = other) (hb : m_judge_contents cs a (tOf (whole ++ late)) = both) (q : other.isPre = true) :
    (both.isPre = decide ((if ((other)).low.1 > ((Vd.pre flo fhi)).low.1 then ((other)).low.1 else ((Vd.pre flo fhi)).low.1) ≤ (if ((other)).low.2 < ((Vd.pre flo fhi)).low.2 then ((other)).low.2 else ((Vd.pre flo fhi)).low.2))) ∧
    ((if ((other)).low.2 < ((Vd.pre flo fhi)).low.2 then ((other)).low.2 else ((Vd.pre flo fhi)).low.2) < (if ((other)).low.1 > ((Vd.pre flo fhi)).low.1 then ((other)).low.1 else ((Vd.pre flo fhi)).low.1) → both.isPre = false) ∧
    ((if ((other)).low.2 < ((Vd.pre flo fhi)).low.2 then ((other)).low.2 else ((Vd.pre flo fhi)).low.2) < (if ((other)).low.1 > ((Vd.pre flo fhi)).low.1 then ((other)).low.1 else ((Vd.pre flo fhi)).low.1) → (both.two.2).isSome = true) ∧
    (decide ((if ((other)).low.1 > ((Vd.pre flo fhi)).low.1 then ((other)).low.1 else ((Vd.pre flo fhi)).low.1) ≤ (if ((other)).low.2 < ((Vd.pre flo fhi)).low.2 then ((other)).low.2 else ((Vd.pre flo fhi)).low.2)) = true → both = Vd.pre (if ((other)).low.1 > ((Vd.pre flo fhi)).low.1 then ((other)).low.1 else ((Vd.pre flo fhi)).low.1) (if ((other)).low.2 < ((Vd.pre flo fhi)).low.2 then ((other)).low.2 else ((Vd.pre flo fhi)).low.2)) ∧
    ((if ((other)).low.2 < ((Vd.pre flo fhi)).low.2 then ((other)).low.2 else ((Vd.pre flo fhi)).low.2) < (if ((other)).low.1 > ((Vd.pre flo fhi)).low.1 then ((other)).low.1 else ((Vd.pre flo fhi)).low.1) → ((decide ((both).two.1 ∈ sm)) = (decide ((((both).two.2).getD ("" : Str)) ∈ sm))) = False) := by
  have ckl := X.cklate R hk h
  have ckb := X.ckboth R hk h
  have jo := judge_of ckl
  have jb := judge_of ckb
  rw [ho] at jo
  rw [hb] at jb
  cases other with
  | apart x y => cases q
  | pre l u =>
  obtain ⟨g1, g2, g3, g4⟩ := js_pre jo
  have f1 := F.lo1; have f2 := F.lh; have f3 := F.h1
  have fb := fun k => fit_both X R h k
  show (both.isPre = decide ((if l > flo then l else flo) ≤ (if u < fhi then u else fhi))) ∧ ((if u < fhi then u else fhi) < (if l > flo then l else flo) → both.isPre = false) ∧ ((if u < fhi then u else fhi) < (if l > flo then l else flo) → (both.two.2).isSome = true) ∧ (decide ((if l > flo then l else flo) ≤ (if u < fhi then u else fhi)) = true → both = Vd.pre (if l > flo then l else flo) (if u < fhi then u else fhi)) ∧ ((if u < fhi then u else fhi) < (if l > flo then l else flo) → ((decide ((both).two.1 ∈ sm)) = (decide ((((both).two.2).getD ("" : Str)) ∈ sm))) = False)
  have hlo : (if l > flo then l else flo) = (if l > flo then l else flo) := rfl
  generalize hL : (if l > flo then l else flo) = L at *
  generalize hU : (if u < fhi then u else fhi) = U at *
  have eL : l ≤ L ∧ flo ≤ L ∧ (L = l ∨ L = flo) := by rw [← hL]; split <;> omega
  have eU : U ≤ u ∧ U ≤ fhi ∧ (U = u ∨ U = fhi) := by rw [← hU]; split <;> omega
  have fit : ∀ k, a ≤ k → k ≤ cs.length → (Fit cs (tOf (whole ++ late)) k ↔ L ≤ k ∧ k ≤ U) := fun k k0 k1 => by
    rw [fb, F.ff k k0 k1, g1 k k0 k1]; omega
  have pre : L ≤ U → both = Vd.pre L U := fun hLU => js_eq jb (ck_nums ckb) X.a0 (by omega) hLU (by omega) fit
  have apart : U < L → both.isPre = false := fun hUL => by
    cases e : both.isPre with
    | false => rfl
    | true =>
      obtain ⟨k, k0, k1, f⟩ := (js_iff jb (ck_nums ckb) X.a0).mp e
      have := (fit k k0 k1).mp f
      omega
  have fl : Fit cs late l := (g1 l g2 (by omega)).mpr ⟨Int.le_refl _, g3⟩
  have a1 := X.a1; have m1 := X.m1
  have good : ∀ z, (tGet (tOf (whole ++ late)) z).isSome = true → m__law_last cs (if z ∈ sm then many else l) z = (tGet (tOf (whole ++ late)) z).getD 0 := fun z hz => by
    rw [tOf_nd (both_nd X R h), tGet_app] at hz ⊢
    by_cases e : z ∈ sm
    · rw [if_pos e]
      have hs := X.wsome z e
      rw [X.fit z hs]
      obtain ⟨n, hn⟩ := Option.isSome_iff_exists.mp hs
      rw [hn]; rfl
    · rw [if_neg e]
      have hn : tGet whole z = none := tGet_no.mpr (by rw [X.keys]; exact e)
      rw [hn] at hz ⊢
      exact fl z hz
  have at_ : ∀ z, (tGet (tOf (whole ++ late)) z).isSome = true → a ≤ (if z ∈ sm then many else l) ∧ (if z ∈ sm then many else l) ≤ (cs.length : Int) := fun z _ => by split <;> omega
  have inI : ∀ z i, (tGet (tOf (whole ++ late)) z).isSome = true → Iv cs (tOf (whole ++ late)) z = some i → i.1 ≤ (if z ∈ sm then many else l) ∧ (if z ∈ sm then many else l) ≤ i.2 := fun z i hz hi => by
    obtain ⟨c1, c2⟩ := ck_nums ckb z hz
    have b := at_ z hz
    exact ((interval_some c1 c2 hi).2.2.2 _ (by have := X.a0; omega) b.2).mp (good z hz)
  have cross : U < L → ∃ x y, both = Vd.apart x (some y) ∧ ((x ∈ sm ∧ y ∉ sm) ∨ (x ∉ sm ∧ y ∈ sm)) := fun hUL => by
    have hp := apart hUL
    cases jb with
    | pre lo hi => cases hp
    | gone x hx hi => exact absurd (good x hx) (interval_none hi _ (by have := at_ x hx; have := X.a0; omega))
    | late x i hx hi hm =>
      have b := inI x i hx hi
      have c := at_ x hx
      have e : m_is_meeting i (a, (cs.length : Int)) = true := meets_iff.mpr ⟨by omega, by show i.1 ≤ (cs.length : Int); omega, by show a ≤ i.2; omega, by show a ≤ (cs.length : Int); omega⟩
      rw [e] at hm; cases hm
    | two x y i j hx hy ne hi hj hm =>
      have b := inI x i hx hi
      have c := inI y j hy hj
      refine ⟨x, y, rfl, ?_⟩
      by_cases ex : x ∈ sm <;> by_cases ey : y ∈ sm
      · rw [if_pos ex] at b; rw [if_pos ey] at c
        have e : m_is_meeting j i = true := meets_iff.mpr ⟨by omega, by omega, by omega, by omega⟩
        rw [e] at hm; cases hm
      · exact .inl ⟨ex, ey⟩
      · exact .inr ⟨ex, ey⟩
      · rw [if_neg ex] at b; rw [if_neg ey] at c
        have e : m_is_meeting j i = true := meets_iff.mpr ⟨by omega, by omega, by omega, by omega⟩
        rw [e] at hm; cases hm
  refine ⟨?_, apart, fun hUL => ?_, fun hd => pre (of_decide_eq_true hd), fun hUL => ?_⟩
  · by_cases e : L ≤ U
    · rw [pre e, decide_eq_true e]; rfl
    · rw [apart (by omega), decide_eq_false e]
  · obtain ⟨x, y, rfl, _⟩ := cross hUL; rfl
  · obtain ⟨x, y, rfl, c⟩ := cross hUL
    show (decide (x ∈ sm) = decide (y ∈ sm)) = False
    rcases c with ⟨c1, c2⟩ | ⟨c1, c2⟩ <;> simp [c1, c2]
theorem nv142 {both : Vd} {low high : Int} (B : (both.isPre = decide (low ≤ high)) ∧ (high < low → both.isPre = false) ∧ (high < low → (both.two.2).isSome = true) ∧ (decide (low ≤ high) = true → both = Vd.pre low high) ∧ (high < low → ((decide ((both).two.1 ∈ sm)) = (decide ((((both).two.2).getD ("" : Str)) ∈ sm))) = False)) :
    ((!decide ((both).isPre = (decide (low ≤ high)))) || (((decide (low ≤ high)) && (!decide (both = (Vd.pre low high)))) || ((decide (high < low)) && (decide ((decide ((both).two.1 ∈ sm)) = (decide ((((both).two.2).getD ("" : Str)) ∈ sm))))))) = false := by
  obtain ⟨b1, b2, b3, b4, b5⟩ := B
  by_cases e : low ≤ high
  · have h4 := b4 (decide_eq_true e)
    subst h4
    rw [decide_eq_false (show ¬ high < low by omega)]
    simp [Vd.isPre, e]
  · rw [b1, decide_eq_false e]
    simp only [decide_true, Bool.not_true, Bool.false_and, Bool.false_or, Bool.and_eq_false_iff, decide_eq_false_iff_not]
    exact .inr (fun q => by rw [b5 (by omega)] at q; exact q)
end
/-! ### one commit more -/
theorem Dt.ckmore (X : Dt cs many a sm whole) {rest : List Str} (R : rest.Sublist s4L ∧ ∀ z ∈ rest, z ∉ sm) {more : List (List Str)} (h : cs ++ (rest :: ([] : List (List Str))) = more) : Ck more a whole := by
  subst h
  have k1 := X.ckw
  refine ck_mk (fun p hp => ?_) (by rw [List.length_append]; have := X.cl; simp; omega) k1.lo (by rw [List.length_append]; have := k1.hi; simp; omega) (fun kv hk => ⟨k1.nm kv hk, (k1.nn kv hk).1, by rw [List.length_append]; have := (k1.nn kv hk).2; simp; omega⟩) k1.nd k1.sz
  rcases List.mem_append.mp hp with e | e
  · exact k1.pg p e
  · rw [List.mem_singleton.mp e]; exact s4_pg R.1
theorem fit_app (X : Dt cs many a sm whole) {r : List Str} {k : Int} (k0 : 0 ≤ k) (k1 : k ≤ cs.length) : Fit (cs ++ [r]) whole k ↔ Fit cs whole k := by
  unfold Fit
  simp only [last_app k0 k1]
theorem longer_of (X : Dt cs many a sm whole) (F : FD cs a whole flo fhi) {rest : List Str} (R : rest.Sublist s4L ∧ ∀ z ∈ rest, z ∉ sm) {more : List (List Str)} (h : cs ++ (rest :: ([] : List (List Str))) = more) : m_judge_contents more a whole = Vd.pre flo (if fhi = (cs.length : Int) then fhi + 1 else fhi) := by
  have ck := X.ckmore R h
  subst h
  have hl : ((cs ++ (rest :: [])).length : Int) = (cs.length : Int) + 1 := by rw [List.length_append]; simp
  have f1 := F.lo1; have f2 := F.lh; have f3 := F.h1
  refine js_eq (judge_of ck) (ck_nums ck) X.a0 f1 (by split <;> omega) (by rw [hl]; split <;> omega) fun k k0 k1 => ?_
  rw [hl] at k1
  have a0 := X.a0
  by_cases e : k ≤ cs.length
  · rw [fit_app X (by omega) e, F.ff k k0 e]
    split <;> omega
  · have ek : k = (cs.length : Int) + 1 := by omega
    subst ek
    have same : Fit (cs ++ (rest :: [])) whole ((cs.length : Int) + 1) ↔ Fit cs whole cs.length := by
      rw [fit_kv X.wnd, fit_kv X.wnd]
      refine forall_congr' fun kv => forall_congr' fun hk => ?_
      have hm : kv.1 ∈ sm := X.keys ▸ List.mem_map.mpr ⟨kv, hk, rfl⟩
      rw [last_end, if_neg (fun e => R.2 _ e hm)]
    rw [same, F.ff _ (by omega) (Int.le_refl _)]
    split <;> omega
theorem nv148 : ((!decide (((Vd.pre flo (if fhi = (cs.length : Int) then fhi + 1 else fhi))).low.1 = ((Vd.pre flo fhi)).low.1)) || (!decide (((Vd.pre flo (if fhi = (cs.length : Int) then fhi + 1 else fhi))).low.2 = (if (decide (((Vd.pre flo fhi)).low.2 = ((cs).length : Int))) = true then (((Vd.pre flo fhi)).low.2 + (1 : Int)) else ((Vd.pre flo fhi)).low.2)))) = false := by
  show ((!decide (flo = flo)) || (!decide ((if fhi = (cs.length : Int) then fhi + 1 else fhi) = (if (decide (fhi = (cs.length : Int))) = true then fhi + 1 else fhi)))) = false
  simp
theorem Dt.cks1 (X : Dt cs many a sm whole) : Ck (cs ++ (sm :: ([] : List (List Str)))) a whole := by
  have k1 := X.ckw
  refine ck_mk (fun p hp => ?_) (by rw [List.length_append]; have := X.cl; simp; omega) k1.lo (by rw [List.length_append]; have := k1.hi; simp; omega) (fun kv hk => ⟨k1.nm kv hk, (k1.nn kv hk).1, by rw [List.length_append]; have := (k1.nn kv hk).2; simp; omega⟩) k1.nd k1.sz
  rcases List.mem_append.mp hp with e | e
  · exact k1.pg p e
  · rw [List.mem_singleton.mp e]; exact s4_pg X.sb
theorem Dt.cks2 (X : Dt cs many a sm whole) : Ck (cs ++ (sm :: ([] : List (List Str)))) ((cs.length : Int) + (1 : Int)) whole := by
  have k1 := X.cks1
  exact ⟨k1.pg, k1.len, by omega, by rw [List.length_append]; simp, k1.nm, k1.nn, k1.nd, k1.sz⟩
theorem nv150 (X : Dt cs many a sm whole) (F : FD cs a whole flo fhi) : (((!decide (sm = ([] : List Str))) && (!decide ((m_judge_contents (cs ++ (sm :: ([] : List (List Str)))) (a) (whole)) = (Vd.pre ((Vd.pre flo fhi)).low.1 ((Vd.pre flo fhi)).low.2)))) || ((!decide (sm = ([] : List Str))) && ((m_judge_contents (cs ++ (sm :: ([] : List (List Str)))) (((cs).length : Int) + (1 : Int)) (whole))).isPre)) = false := by
  by_cases hs : sm = []
  · simp [hs]
  have hl : ((cs ++ (sm :: [])).length : Int) = (cs.length : Int) + 1 := by rw [List.length_append]; simp
  have f1 := F.lo1; have f2 := F.lh; have f3 := F.h1; have a0 := X.a0
  obtain ⟨z, hz⟩ := List.exists_mem_of_ne_nil sm hs
  have nofit : ¬ Fit (cs ++ (sm :: [])) whole ((cs.length : Int) + 1) := fun f => by
    have e := f z (X.wsome z hz)
    rw [last_end, if_pos hz, ← X.fit z (X.wsome z hz)] at e
    have := (last_in (cs := cs) (p := z) X.m0).2
    have := X.m1
    omega
  have e1 : m_judge_contents (cs ++ (sm :: [])) a whole = Vd.pre flo fhi := by
    refine js_eq (judge_of X.cks1) (ck_nums X.cks1) X.a0 f1 f2 (by rw [hl]; omega) fun k k0 k1 => ?_
    rw [hl] at k1
    by_cases e : k ≤ cs.length
    · rw [fit_app X (by omega) e, F.ff k k0 e]
    · have ek : k = (cs.length : Int) + 1 := by omega
      subst ek
      exact ⟨fun f => absurd f nofit, fun q => by omega⟩
  have e2 : (m_judge_contents (cs ++ (sm :: [])) ((cs.length : Int) + 1) whole).isPre = false := by
    cases e : (m_judge_contents (cs ++ (sm :: [])) ((cs.length : Int) + 1) whole).isPre with
    | false => rfl
    | true =>
      obtain ⟨k, k0, k1, f⟩ := (js_iff (judge_of X.cks2) (ck_nums X.cks2) (by omega)).mp e
      rw [hl] at k1
      rw [show k = (cs.length : Int) + 1 from by omega] at f
      exact absurd f nofit
  rw [e1, e2]
  show ((!decide (sm = [])) && (!decide (Vd.pre flo fhi = Vd.pre flo fhi)) || (!decide (sm = [])) && false) = false
  simp
end
end B
set_option Elab.async false
set_option linter.all false
set_option maxRecDepth 100000
set_option maxHeartbeats 1000000
namespace B
open PySem PySem.Spec PyProof.Rows L2 Z
theorem meets_sym {i j : Int × Int} (h : m_is_meeting i j = false) : m_is_meeting j i = false := by
  cases e : m_is_meeting j i with
  | false => rfl
  | true =>
    have := meets_iff.mp e
    rw [meets_iff.mpr ⟨this.2.2.2, this.2.2.1, this.2.1, this.1⟩] at h; cases h
theorem key_nm {cs : List (List Str)} {a : Int} {t : List (Str × Int)} (K : Ck cs a t) {z : Str} (h : (tGet t z).isSome = true) : z ∈ Nm8 := by
  obtain ⟨n, hn⟩ := Option.isSome_iff_exists.mp h
  exact K.nm _ (tGet_mem hn)
theorem shows_js {cs : List (List Str)} {a : Int} {t : List (Str × Int)} {v : Vd} (K : Ck cs a t) (h : JS cs a t v) (e : m_judge_contents cs a t = v) : showsV v cs a t = true := by
  cases h with
  | pre lo hi => exact decide_eq_true e
  | gone x hx hi =>
    show m_Apart_shows (x, some x) cs a t = true
    have hi : m_interval cs x ((tGet t x).getD 0) = none := hi
    unfold m_Apart_shows
    simp only [name_ok (key_nm K hx), hx, hi, Option.getD_some, Option.isNone_some, Option.isNone_none, Bool.not_true, Bool.not_false, Bool.or_self, Bool.and_false, Bool.false_eq_true, if_false, decide_true, if_true]
  | late x i hx hi hm =>
    show m_Apart_shows (x, none) cs a t = true
    have hi : m_interval cs x ((tGet t x).getD 0) = some i := hi
    unfold m_Apart_shows
    simp only [name_ok (key_nm K hx), hx, hi, hm, Option.getD_some, Option.isNone_some, Option.isNone_none, Bool.not_true, Bool.not_false, Bool.or_self, Bool.and_false, Bool.false_and, Bool.false_eq_true, if_false, if_true, reduceCtorEq, decide_false, Bool.and_self]
  | two x y i j hx hy ne hi hj hm =>
    show m_Apart_shows (x, some y) cs a t = true
    have hi : m_interval cs x ((tGet t x).getD 0) = some i := hi
    have hj : m_interval cs y ((tGet t y).getD 0) = some j := hj
    have hm2 := meets_sym hm
    have hne : decide (some x = some y) = false := decide_eq_false fun e => ne (Option.some.inj e)
    unfold m_Apart_shows
    simp only [name_ok (key_nm K hx), name_ok (key_nm K hy), hx, hy, hi, hj, hm2, hne, Option.getD_some, Option.isNone_some, Bool.not_true, Bool.not_false, Bool.or_self, Bool.and_false, Bool.false_eq_true, if_false, Bool.and_self]
theorem sh_js {cs : List (List Str)} {a : Int} {t : List (Str × Int)} {v : Vd} (K : Ck cs a t) (h : JS cs a t v) : ShOk v cs a t := by
  cases v with
  | pre lo hi => exact K
  | apart x y =>
    obtain ⟨h1, h2⟩ := js_key h
    exact ⟨K, key_nm K h1, fun z e => key_nm K (h2 z e)⟩
/-- no first commits fit what lies apart -/
theorem unfit {cs : List (List Str)} {a : Int} {t : List (Str × Int)} {x : Str} {y : Option Str} (hn : Nums cs t) (h0 : 0 ≤ a) (h : JS cs a t (.apart x y)) {k : Int} (k0 : a ≤ k) (k1 : k ≤ cs.length) (f1 : m__law_last cs k x = (tGet t x).getD 0) (f2 : ∀ z, y = some z → m__law_last cs k z = (tGet t z).getD 0) : False := by
  have at_k : ∀ z i, (tGet t z).isSome = true → Iv cs t z = some i → m__law_last cs k z = (tGet t z).getD 0 → i.1 ≤ k ∧ k ≤ i.2 := fun z i hz hi e => by
    obtain ⟨c1, c2⟩ := hn z hz
    exact ((interval_some c1 c2 hi).2.2.2 k (by omega) k1).mp e
  cases h with
  | gone _ hx hi => exact interval_none hi k (by omega) f1
  | late _ i hx hi hm =>
    have := at_k x i hx hi f1
    have e : m_is_meeting i (a, (cs.length : Int)) = true := meets_iff.mpr ⟨by omega, by show i.1 ≤ (cs.length : Int); omega, by show a ≤ i.2; omega, by show a ≤ (cs.length : Int); omega⟩
    rw [e] at hm; cases hm
  | two _ y i j hx hy ne hi hj hm =>
    have h1 := at_k x i hx hi f1
    have h2 := at_k y j hy hj (f2 y rfl)
    have e : m_is_meeting j i = true := meets_iff.mpr ⟨by omega, by omega, by omega, by omega⟩
    rw [e] at hm; cases hm
section
variable {cs : List (List Str)} {many a : Int} {sm : List Str} {whole : List (Str × Int)} {flo fhi : Int}
theorem Dt.cke (X : Dt cs many a sm whole) {l : Int} (h : a ≤ l ∧ l < (cs.length : Int) + 1) : Ck cs l whole := by
  have k := X.ckw
  exact ⟨k.pg, k.len, by have := X.a0; omega, by omega, k.nm, k.nn, k.nd, k.sz⟩
theorem least_of {l : Int} (X : Dt cs many a sm whole) (F : FD cs a whole flo fhi) (h : a ≤ l ∧ l < (cs.length : Int) + 1) : ((m_judge_contents cs l whole).isPre = decide (l ≤ fhi)) ∧ ((m_judge_contents cs l whole).isPre = true → m_judge_contents cs l whole = .pre (if flo > l then flo else l) fhi) ∧ ((m_judge_contents cs l whole).isPre = false → (m_judge_contents cs l whole).two.2 = none) ∧ showsV (m_judge_contents cs l whole) cs l whole = true ∧ ShOk (m_judge_contents cs l whole) cs l whole := by
  have K := X.cke h
  have hj := judge_of K
  have f1 := F.lo1; have f2 := F.lh; have f3 := F.h1; have a0 := X.a0; have a1 := X.a1; have m1 := X.m1
  have pre : l ≤ fhi → m_judge_contents cs l whole = .pre (if flo > l then flo else l) fhi := fun hl =>
    js_eq hj (ck_nums K) (by omega) (by split <;> omega) (by split <;> omega) f3 fun k k0 k1 => by
      rw [F.ff k (by omega) k1]
      split <;> omega
  have apart : ¬ l ≤ fhi → (m_judge_contents cs l whole).isPre = false := fun hl => by
    cases e : (m_judge_contents cs l whole).isPre with
    | false => rfl
    | true =>
      obtain ⟨k, k0, k1, f⟩ := (js_iff hj (ck_nums K) (by omega)).mp e
      have := (F.ff k (by omega) k1).mp f
      omega
  refine ⟨?_, fun e => ?_, fun e => ?_, shows_js K hj rfl, sh_js K hj⟩
  · by_cases hl : l ≤ fhi
    · rw [pre hl, decide_eq_true hl]; rfl
    · rw [apart hl, decide_eq_false hl]
  · by_cases hl : l ≤ fhi
    · exact pre hl
    · rw [apart hl] at e; cases e
  · have in_m : ∀ z i, (tGet whole z).isSome = true → Iv cs whole z = some i → i.1 ≤ many ∧ many ≤ i.2 := fun z i hz hi => by
      obtain ⟨c1, c2⟩ := ck_nums K z hz
      exact ((interval_some c1 c2 hi).2.2.2 many X.m0 m1).mp (X.fit z hz)
    cases hv : m_judge_contents cs l whole with
    | pre x y => rw [hv] at e; cases e
    | apart x y =>
      rw [hv] at hj
      cases hj with
      | gone _ hx hi => exact absurd (X.fit x hx) (interval_none hi many X.m0)
      | late _ i hx hi hm => rfl
      | two _ y i j hx hy ne hi hj hm =>
        have h1 := in_m x i hx hi
        have h2 := in_m y j hy hj
        have e : m_is_meeting j i = true := meets_iff.mpr ⟨by omega, by omega, by omega, by omega⟩
        rw [e] at hm; cases hm
theorem nv154 {v : Vd} {l : Int} (E : (v.isPre = decide (l ≤ fhi)) ∧ (v.isPre = true → v = .pre (if flo > l then flo else l) fhi) ∧ (v.isPre = false → v.two.2 = none) ∧ showsV v cs l whole = true ∧ ShOk v cs l whole) :
    ((!decide ((v).isPre = (decide (l ≤ ((Vd.pre flo fhi)).low.2)))) || (((v).isPre && (!decide (v = (Vd.pre (if ((Vd.pre flo fhi)).low.1 > l then ((Vd.pre flo fhi)).low.1 else l) ((Vd.pre flo fhi)).low.2)))) || ((!(v).isPre) && ((!((v).two.2).isNone) || (!(showsV v cs l whole)))))) = false := by
  obtain ⟨e1, e2, e3, e4, e5⟩ := E
  show ((!decide (v.isPre = decide (l ≤ fhi))) || ((v.isPre && (!decide (v = Vd.pre (if flo > l then flo else l) fhi))) || ((!v.isPre) && ((!(v.two.2).isNone) || (!(showsV v cs l whole)))))) = false
  rw [decide_eq_true e1, e4]
  cases hp : v.isPre with
  | true => rw [decide_eq_true (e2 hp)]; rfl
  | false => rw [e3 hp]; rfl
/-! ### renamed pages -/
def NMS : List (Str × Str) := [("a", "q"), ("b", "p"), ("c", "zz"), ("d", "m1")]
theorem names_of {names : List (Str × Str)} (h : (tOf (s4L.zip (("q" : Str) :: (("p" : Str) :: (("zz" : Str) :: (("m1" : Str) :: ([] : List Str))))))) = names) : (∀ p : List Str, p.Sublist s4L → ∀ {z : Str}, z ∈ p → (tGet names z).isSome = true) ∧ (∀ z ∈ s4L, (tGet names z).isSome = true) ∧ names = NMS := by
  have e : tOf (s4L.zip (("q" : Str) :: (("p" : Str) :: (("zz" : Str) :: (("m1" : Str) :: ([] : List Str)))))) = NMS := by decide +kernel
  rw [e] at h
  subst h
  have all : ∀ z ∈ s4L, (tGet NMS z).isSome = true := by decide +kernel
  exact ⟨fun p hp z hz => all z (hp.subset hz), all, rfl⟩
def ren (z : Str) : Str := (tGet NMS z).getD ("" : Str)
theorem ren_inj : ∀ x ∈ s4L, ∀ y ∈ s4L, ren x = ren y → x = y := by decide +kernel
theorem ren_nm : ∀ x ∈ s4L, ren x ∈ Nm8 := by decide +kernel
theorem ren_nd {names : List (Str × Str)} (N : (∀ p : List Str, p.Sublist s4L → ∀ {z : Str}, z ∈ p → (tGet names z).isSome = true) ∧ (∀ z ∈ s4L, (tGet names z).isSome = true) ∧ names = NMS) {p : List Str} (hp : p.Sublist s4L) : (p.map fun x => (tGet names x).getD ("" : Str)).Nodup := by
  rw [N.2.2]
  have h : (s4L.map ren).Nodup := by decide +kernel
  exact h.sublist (hp.map ren)
section
variable {names : List (Str × Str)}
abbrev NmOk (names : List (Str × Str)) : Prop := (∀ p : List Str, p.Sublist s4L → ∀ {z : Str}, z ∈ p → (tGet names z).isSome = true) ∧ (∀ z ∈ s4L, (tGet names z).isSome = true) ∧ names = NMS
def turnC (cs : List (List Str)) : List (List Str) := cs.map fun r => sortS (r.map ren)
def turnT (sm : List Str) (whole : List (Str × Int)) : List (Str × Int) := sm.map fun x => (ren x, (tGet whole x).getD 0)
theorem sm_ren_nd (h : sm.Sublist s4L) : (sm.map ren).Nodup := by
  have h2 : (s4L.map ren).Nodup := by decide +kernel
  exact h2.sublist (h.map ren)
theorem turnT_keys : (turnT sm whole).map (·.1) = sm.map ren := by unfold turnT; rw [List.map_map]; rfl
theorem ckn0 (X : Dt cs many a sm whole) : Ck (turnC cs) a (turnT sm whole) := by
  have k := X.ckw
  have hl : (turnC cs).length = cs.length := List.length_map ..
  refine ck_mk (fun p hp => ?_) (by rw [hl]; exact k.len) k.lo (by rw [hl]; exact k.hi) (fun kv hk => ?_) (by rw [turnT_keys]; exact sm_ren_nd X.sb) (by unfold turnT; rw [List.length_map]; have := s4_len X.sb; omega)
  · obtain ⟨r, hr, rfl⟩ := List.mem_map.mp hp
    have hs := X.cm r hr
    refine ⟨fun z hz => ?_, asc_sortS _, Nat.le_trans (sortS_len _) (by rw [List.length_map]; have := s4_len hs; omega)⟩
    rw [mem_sortS] at hz
    obtain ⟨y, hy, rfl⟩ := List.mem_map.mp hz
    exact ren_nm y (hs.subset hy)
  · obtain ⟨x, hx, rfl⟩ := List.mem_map.mp hk
    have := ck_num k (X.wsome x hx)
    exact ⟨ren_nm x (X.sb.subset hx), this.2.1, by rw [hl]; exact this.2.2⟩
theorem Dt.ckn (X : Dt cs many a sm whole) (N : NmOk names) : Ck ((cs).map fun x77 => (sortS ((x77).map fun x80 => ((tGet names x80).getD ("" : Str))))) a (tOf ((sm).map fun x83 => (((tGet names x83).getD ("" : Str)), ((tGet whole x83).getD 0)))) := by
  obtain ⟨_, _, rfl⟩ := N
  have e : tOf (turnT sm whole) = turnT sm whole := tOf_nd (by rw [turnT_keys]; exact sm_ren_nd X.sb)
  show Ck (turnC cs) a (tOf (turnT sm whole))
  rw [e]; exact ckn0 X
theorem ixI_map {f : List Str → List Str} {i : Int} (h0 : 0 ≤ i) (h1 : i < cs.length) : ixI [] (cs.map f) i = f (ixI [] cs i) := by
  rw [ixI_pos h0 (by rw [List.length_map]; exact h1), ixI_pos h0 h1, List.getD_eq_getElem?_getD, List.getD_eq_getElem?_getD, List.getElem?_map]
  have : i.toNat < cs.length := by omega
  rw [List.getElem?_eq_getElem this]; rfl
theorem ixI_mem {i : Int} (h0 : 0 ≤ i) (h1 : i < cs.length) : ixI [] cs i ∈ cs := by
  rw [ixI_pos h0 h1, List.getD_eq_getElem?_getD]
  have : i.toNat < cs.length := by omega
  rw [List.getElem?_eq_getElem this]
  exact List.getElem_mem this
theorem turned_of (X : Dt cs many a sm whole) (F : FD cs a whole flo fhi) (N : NmOk names) : m_judge_contents ((cs).map fun x77 => (sortS ((x77).map fun x80 => ((tGet names x80).getD ("" : Str))))) a (tOf ((sm).map fun x83 => (((tGet names x83).getD ("" : Str)), ((tGet whole x83).getD 0)))) = Vd.pre flo fhi := by
  obtain ⟨_, _, rfl⟩ := N
  have e : tOf (turnT sm whole) = turnT sm whole := tOf_nd (by rw [turnT_keys]; exact sm_ren_nd X.sb)
  show m_judge_contents (turnC cs) a (tOf (turnT sm whole)) = Vd.pre flo fhi
  rw [e]
  have K := ckn0 X
  have hl : ((turnC cs).length : Int) = cs.length := by unfold turnC; rw [List.length_map]
  have a0 := X.a0
  refine js_eq (judge_of K) (ck_nums K) X.a0 F.lo1 F.lh (by rw [hl]; exact F.h1) fun k k0 k1 => ?_
  rw [hl] at k1
  rw [← F.ff k k0 k1, fit_kv K.nd]
  have lk : ∀ x ∈ sm, m__law_last (turnC cs) k (ren x) = m__law_last cs k x := fun x hx => last_congr (by omega) fun i i0 i1 => by
    have hi : i < cs.length := by omega
    unfold turnC
    rw [ixI_map (f := fun r => sortS (r.map ren)) i0 hi]
    show ren x ∈ sortS ((ixI [] cs i).map ren) ↔ _
    rw [mem_sortS, List.mem_map]
    constructor
    · rintro ⟨y, hy, e⟩
      rw [← ren_inj y ((X.cm _ (ixI_mem i0 hi)).subset hy) x (X.sb.subset hx) e]; exact hy
    · exact fun h => ⟨x, h, rfl⟩
  constructor
  · intro h z hz
    have hm : z ∈ sm := X.keys ▸ tGet_some.mp hz
    rw [← lk z hm]
    exact h (ren z, (tGet whole z).getD 0) (List.mem_map.mpr ⟨z, hm, rfl⟩)
  · intro h kv hk
    obtain ⟨x, hx, rfl⟩ := List.mem_map.mp hk
    show m__law_last (turnC cs) k (ren x) = (tGet whole x).getD 0
    rw [lk x hx]; exact h x (X.wsome x hx)
end
/-! ### numbers drawn -/
abbrev WlOk (cs : List (List Str)) (sm : List Str) (wild : List (Str × Int)) : Prop := wild.map (·.1) = sm ∧ ∀ kv ∈ wild, 0 ≤ kv.2 ∧ kv.2 ≤ (cs.length : Int)
theorem wl_facts (ns : List Int) (cs : List (List Str)) : ∀ (sm : List Str) (k : Nat), WlOk cs sm (lcK (fun (_ : Str) (k_ : Nat) => (true, k_)) (fun (x88 : Str) (k_ : Nat) => (((x88, (tk ns k_ (((cs).length : Int) + (1 : Int)))) : (Str × Int)), (k_ + 1))) sm k).1
  | [], k => ⟨rfl, fun kv h => by cases h⟩
  | x :: sm, k => by
    obtain ⟨h1, h2⟩ := wl_facts ns cs sm (k + 1)
    have h3 := tk_in ns k (many := (cs.length : Int) + 1) (by omega)
    unfold lcK
    rw [if_pos rfl]
    refine ⟨by rw [List.map_cons, h1], fun kv hk => ?_⟩
    rcases List.mem_cons.mp hk with e | e
    · subst e; exact ⟨h3.1, by show tk ns k _ ≤ _; omega⟩
    · exact h2 kv e
section
variable {wild : List (Str × Int)} {told : Vd}
theorem wl_nd (X : Dt cs many a sm whole) (W : WlOk cs sm wild) : (wild.map (·.1)).Nodup := by rw [W.1]; exact s4_nd X.sb
theorem wl_of (X : Dt cs many a sm whole) (W : WlOk cs sm wild) : tOf wild = wild := tOf_nd (wl_nd X W)
theorem Dt.ckwild (X : Dt cs many a sm whole) (W : WlOk cs sm wild) : Ck cs a wild := by
  have k := X.ckw
  refine ck_mk k.pg k.len k.lo k.hi (fun kv hk => ⟨?_, W.2 kv hk⟩) (wl_nd X W) (by rw [← List.length_map (f := (·.1)), W.1]; have := s4_len X.sb; omega)
  exact s4_nm _ (X.sb.subset (W.1 ▸ List.mem_map.mpr ⟨kv, hk, rfl⟩))
theorem wl_some (W : WlOk cs sm wild) {z : Str} (hz : z ∈ sm) : (tGet wild z).isSome = true := tGet_some.mpr (by rw [W.1]; exact hz)
theorem told_js (K : Ck cs a wild) (h : m_judge_contents cs a wild = told) : JS cs a wild told := h ▸ judge_of K
theorem sh_ok (K : Ck cs a wild) (h : m_judge_contents cs a wild = told) : ShOk told cs a wild := sh_js K (told_js K h)
theorem good_of (X : Dt cs many a sm whole) (W : WlOk cs sm wild) (K : Ck cs a wild) (h : m_judge_contents cs a wild = told) {good : List Int} (hg : (((rg a ((cs.length : Int) + (1 : Int))).filter fun x93 => (tEq (m__law_contents cs x93 sm) wild)).map fun x93 => x93) = good) :
    (told.isPre = !decide (good = [])) ∧ (told.isPre = true → 0 < good.length) ∧ (told.isPre = true → told = .pre (ixI 0 good 0) (ixI 0 good (-1))) ∧ showsV told cs a wild = true := by
  have hj := told_js K h
  have mem : ∀ k, k ∈ good ↔ (a ≤ k ∧ k ≤ (cs.length : Int)) ∧ Fit cs wild k := fun k => by
    rw [← hg, List.map_id', List.mem_filter, rg_mem, teq_fit (s4_nd X.sb) W.1]
    constructor
    · rintro ⟨⟨p, q⟩, r⟩; exact ⟨⟨p, by omega⟩, r⟩
    · rintro ⟨⟨p, q⟩, r⟩; exact ⟨⟨p, by omega⟩, r⟩
  have iff1 := js_iff hj (ck_nums K) X.a0
  have pos : told.isPre = true → 0 < good.length := fun e => by
    obtain ⟨k, k0, k1, f⟩ := iff1.mp e
    exact List.length_pos_of_mem ((mem k).mpr ⟨⟨k0, k1⟩, f⟩)
  refine ⟨?_, pos, fun e => ?_, shows_js K hj h⟩
  · cases e : told.isPre with
    | true =>
      have := pos e
      have : good ≠ [] := List.length_pos_iff.mp this
      simp [this]
    | false =>
      have : good = [] := List.eq_nil_iff_forall_not_mem.mpr fun k hk => by
        obtain ⟨⟨k0, k1⟩, f⟩ := (mem k).mp hk
        rw [iff1.mpr ⟨k, k0, k1, f⟩] at e; cases e
      simp [this]
  · cases told with
    | apart x y => cases e
    | pre lo hi =>
      obtain ⟨g1, g2, g3, g4⟩ := js_pre hj
      have : good = rg lo (hi + 1) := by
        rw [← hg]
        exact fits_rg g2 g4 fun k k0 k1 => by rw [teq_fit (s4_nd X.sb) W.1]; exact g1 k k0 k1
      rw [this, rg_first g3, rg_last g3]
theorem nv163 {good : List Int} (G : (told.isPre = !decide (good = [])) ∧ (told.isPre = true → 0 < good.length) ∧ (told.isPre = true → told = .pre (ixI 0 good 0) (ixI 0 good (-1))) ∧ showsV told cs a wild = true) : ((!decide ((told).isPre = (!decide (good = ([] : List Int))))) || (((told).isPre && (!decide (told = (Vd.pre (ixI 0 good (0 : Int)) (ixI 0 good (-(1 : Int))))))) || (!(showsV told cs a wild)))) = false := by
  obtain ⟨g1, g2, g3, g4⟩ := G
  rw [decide_eq_true g1, g4]
  cases hp : told.isPre with
  | false => rfl
  | true => rw [decide_eq_true (show told = Vd.pre (ixI 0 good (0 : Int)) (ixI 0 good (-(1 : Int))) from g3 hp)]; rfl
/-! ### two pages -/
def twoT (wild : List (Str × Int)) (x y : Str) : List (Str × Int) := tOf ((x, ((tGet wild x).getD 0)) :: ((y, ((tGet wild y).getD 0)) :: ([] : List (Str × Int))))
theorem one_eq (x : Str) (n : Int) : tOf [(x, n)] = [(x, n)] := tOf_nd (by simp)
theorem twoT_eq (wild : List (Str × Int)) (x y : Str) : twoT wild x y = if x = y then [(x, (tGet wild x).getD 0)] else [(x, (tGet wild x).getD 0), (y, (tGet wild y).getD 0)] := by
  unfold twoT
  split
  · rename_i e
    subst e
    simp [tOf, tPut, tGet, tSet]
  · rename_i e
    exact tOf_nd (by simp; exact fun q => e q)
theorem twoT_kv {x y : Str} {kv : Str × Int} : kv ∈ twoT wild x y ↔ kv = (x, (tGet wild x).getD 0) ∨ kv = (y, (tGet wild y).getD 0) := by
  rw [twoT_eq]
  split
  · rename_i e; subst e; simp
  · simp
theorem twoT_nd (x y : Str) : ((twoT wild x y).map (·.1)).Nodup := by
  rw [twoT_eq]
  split
  · simp
  · rename_i e; simp; exact fun q => e q
theorem twoT_ck (K : Ck cs a wild) {x y : Str} (hx : (tGet wild x).isSome = true) (hy : (tGet wild y).isSome = true) : Ck cs a (twoT wild x y) := by
  refine ck_mk K.pg K.len K.lo K.hi (fun kv hk => ?_) (twoT_nd x y) (by rw [twoT_eq]; split <;> simp)
  have n1 := ck_num K hx
  have n2 := ck_num K hy
  rcases twoT_kv.mp hk with e | e <;> subst e
  · exact ⟨key_nm K hx, n1.2.1, n1.2.2⟩
  · exact ⟨key_nm K hy, n2.2.1, n2.2.2⟩
theorem twoT_fit {x y : Str} {k : Int} : Fit cs (twoT wild x y) k ↔ m__law_last cs k x = (tGet wild x).getD 0 ∧ m__law_last cs k y = (tGet wild y).getD 0 := by
  rw [fit_kv (twoT_nd x y)]
  constructor
  · exact fun h => ⟨h _ (twoT_kv.mpr (.inl rfl)), h _ (twoT_kv.mpr (.inr rfl))⟩
  · rintro ⟨h1, h2⟩ kv hk
    rcases twoT_kv.mp hk with e | e <;> subst e
    · exact h1
    · exact h2
theorem two_pre (K : Ck cs a wild) {x y : Str} (hx : (tGet wild x).isSome = true) (hy : (tGet wild y).isSome = true) : (m_judge_contents cs a (twoT wild x y)).isPre = true ↔ ∃ k, a ≤ k ∧ k ≤ (cs.length : Int) ∧ m__law_last cs k x = (tGet wild x).getD 0 ∧ m__law_last cs k y = (tGet wild y).getD 0 := by
  have K2 := twoT_ck K hx hy
  rw [js_iff (judge_of K2) (ck_nums K2) K.lo]
  simp only [twoT_fit]
/-- the pair told -/
theorem pair_of (K : Ck cs a wild) (J : JS cs a wild told) (q : (!(told).isPre) = true) {pair : List Str} (h : (((told).two.1 :: ([] : List Str)) ++ (if (!((told).two.2).isNone) = true then (((told).two.2).getD ("" : Str) :: ([] : List Str)) else ([] : List Str))) = pair) :
    pair.length ≤ 2 ∧ (∀ z ∈ pair, (tGet wild z).isSome = true) ∧ ∀ small, (tOf ((pair).map fun x100 => (x100, ((tGet wild x100).getD 0))) = small) → Ck cs a small ∧ (m_judge_contents cs a small).isPre = false := by
  cases told with
  | pre lo hi => cases q
  | apart x y =>
  obtain ⟨h1, h2⟩ := js_key J
  have no : ∀ y', (tGet wild y').isSome = true → (∀ z, y = some z → z = y') → (m_judge_contents cs a (twoT wild x y')).isPre = false := fun y' hy' hz => by
    cases e : (m_judge_contents cs a (twoT wild x y')).isPre with
    | false => rfl
    | true =>
      obtain ⟨k, k0, k1, f1, f2⟩ := (two_pre K h1 hy').mp e
      exact (unfit (ck_nums K) K.lo J k0 k1 f1 fun z hzz => by rw [hz z hzz]; exact f2).elim
  cases y with
  | none =>
    have e : pair = [x] := h.symm
    subst e
    refine ⟨by simp, fun z hz => by rw [List.mem_singleton.mp hz]; exact h1, fun small hs => ?_⟩
    have e2 : small = twoT wild x x := by rw [← hs, twoT_eq, if_pos rfl]; exact one_eq x _
    subst e2
    exact ⟨twoT_ck K h1 h1, no x h1 fun z e => by cases e⟩
  | some y =>
    have e : pair = [x, y] := h.symm
    subst e
    refine ⟨by simp, fun z hz => ?_, fun small hs => ?_⟩
    · rcases List.mem_cons.mp hz with e | e
      · rw [e]; exact h1
      · rw [List.mem_singleton.mp e]; exact h2 y rfl
    · have e2 : small = twoT wild x y := hs.symm
      subst e2
      exact ⟨twoT_ck K h1 (h2 y rfl), no y (h2 y rfl) fun z e => by cases e; rfl⟩
theorem mem_foldl {α β : Type} {g : α → List β} {b : β} : ∀ {xs : List α} {s : List β}, b ∈ xs.foldl (fun s x => s ++ g x) s ↔ b ∈ s ∨ ∃ x ∈ xs, b ∈ g x
  | [], s => by simp
  | x :: xs, s => by
    rw [List.foldl_cons, mem_foldl]
    simp only [List.mem_append, List.mem_cons]
    constructor
    · rintro ((h | h) | ⟨y, hy, h⟩)
      · exact .inl h
      · exact .inr ⟨x, .inl rfl, h⟩
      · exact .inr ⟨y, .inr hy, h⟩
    · rintro (h | ⟨y, (rfl | hy), h⟩)
      · exact .inl (.inl h)
      · exact .inl (.inr h)
      · exact .inr ⟨y, hy, h⟩
theorem cut_drop {α : Type} {xs : List α} {i : Nat} (h : i ≤ xs.length) : cutL xs (some (i : Int)) none = xs.drop i := by
  unfold cutL
  rw [HT.sIx_none, HT.sIx_nat, Nat.min_eq_left h]
  rw [List.take_of_length_le]
  rw [List.length_drop]; exact Nat.le_refl _
theorem mem_pairs {t : List (Str × Int)} : t ∈ m__law_pairs sm wild ↔ t = [] ∨ ∃ i x y, sm[i]? = some x ∧ y ∈ sm.drop i ∧ t = twoT wild x y := by
  unfold m__law_pairs
  rw [mem_foldl]
  constructor
  · rintro (h | ⟨x, hx, h⟩)
    · exact .inl (by simpa using h)
    · obtain ⟨m0, m1, m2⟩ := (mem_enum (d := ("" : Str))).mp hx
      obtain ⟨y, hy, e⟩ := List.mem_map.mp h
      obtain ⟨n, hn⟩ := Int.eq_ofNat_of_zero_le m0
      have hlt : n < sm.length := by rw [hn] at m1; exact_mod_cast m1
      rw [hn, cut_drop (Nat.le_of_lt hlt)] at hy
      refine .inr ⟨n, x.2, y, ?_, hy, e.symm⟩
      rw [m2, hn, ixI_nat hlt]; exact List.getElem?_eq_getElem hlt
  · rintro (h | ⟨i, x, y, hi, hy, e⟩)
    · exact .inl (by simp [h])
    · obtain ⟨hlt, ex⟩ := List.getElem?_eq_some_iff.mp hi
      refine .inr ⟨((i : Int), x), (mem_enum (d := ("" : Str))).mpr ⟨by simp, by simp; exact hlt, by rw [← ex]; exact (ixI_nat hlt).symm⟩, List.mem_map.mpr ⟨y, ?_, e.symm⟩⟩
      show y ∈ cutL sm (some (i : Int)) none
      rw [cut_drop (Nat.le_of_lt hlt)]; exact hy
theorem pairs_ck (X : Dt cs many a sm whole) (W : WlOk cs sm wild) (K : Ck cs a wild) : ∀ t ∈ m__law_pairs sm wild, Ck cs a t := fun t ht => by
  rcases mem_pairs.mp ht with e | ⟨i, x, y, hi, hy, e⟩
  · subst e; exact ck_mk K.pg K.len K.lo K.hi (fun kv h => by cases h) List.nodup_nil (by simp)
  · subst e
    exact twoT_ck K (wl_some W (List.mem_of_getElem? hi)) (wl_some W (List.mem_of_mem_drop hy))
theorem nv170 (X : Dt cs many a sm whole) (W : WlOk cs sm wild) (K : Ck cs a wild) (J : JS cs a wild told) : ((!decide ((Vd.apart ("a" : Str) (some ("b" : Str))) = (Vd.apart ("b" : Str) (some ("a" : Str))))) && (decide ((told).isPre = (((((m__law_pairs (sm) (wild))).map fun x113 => ((m_judge_contents (cs) (a) (x113))).isPre)).all id)))) = true := by
  have h0 : (!decide ((Vd.apart ("a" : Str) (some ("b" : Str))) = (Vd.apart ("b" : Str) (some ("a" : Str))))) = true := by decide +kernel
  rw [h0, Bool.true_and, decide_eq_true_iff, Bool.eq_iff_iff, List.all_map, List.all_eq_true]
  have hi := js_iff J (ck_nums K) K.lo
  constructor
  · intro hp t ht
    obtain ⟨k, k0, k1, f⟩ := hi.mp hp
    have Kt := pairs_ck X W K t ht
    refine js_fit (judge_of Kt) (ck_nums Kt) K.lo k0 k1 ?_
    rcases mem_pairs.mp ht with e | ⟨i, x, y, hi, hy, e⟩
    · subst e; exact fun z hz => by cases hz
    · subst e
      exact twoT_fit.mpr ⟨f x (wl_some W (List.mem_of_getElem? hi)), f y (wl_some W (List.mem_of_mem_drop hy))⟩
  · intro all
    cases told with
    | pre lo hi => rfl
    | apart x y =>
      exfalso
      obtain ⟨h1, h2⟩ := js_key J
      have inS : ∀ z, (tGet wild z).isSome = true → z ∈ sm := fun z hz => W.1 ▸ tGet_some.mp hz
      -- the pair stands among them, in one order or the other
      have both : ∀ x ∈ sm, ∀ y ∈ sm, ∃ k, a ≤ k ∧ k ≤ (cs.length : Int) ∧ m__law_last cs k x = (tGet wild x).getD 0 ∧ m__law_last cs k y = (tGet wild y).getD 0 := fun x hx y hy => by
        obtain ⟨i, hi, ei⟩ := List.mem_iff_getElem.mp hx
        obtain ⟨j, hj, ej⟩ := List.mem_iff_getElem.mp hy
        by_cases hij : i ≤ j
        · exact (two_pre K (wl_some W hx) (wl_some W hy)).mp (all _ (mem_pairs.mpr (.inr ⟨i, x, y, by rw [List.getElem?_eq_getElem hi, ei], List.mem_iff_getElem.mpr ⟨j - i, by rw [List.length_drop]; omega, by rw [List.getElem_drop]; simp only [show i + (j - i) = j from by omega]; exact ej⟩, rfl⟩)))
        · obtain ⟨k, k0, k1, f1, f2⟩ := (two_pre K (wl_some W hy) (wl_some W hx)).mp (all _ (mem_pairs.mpr (.inr ⟨j, y, x, by rw [List.getElem?_eq_getElem hj, ej], List.mem_iff_getElem.mpr ⟨i - j, by rw [List.length_drop]; omega, by rw [List.getElem_drop]; simp only [show j + (i - j) = i from by omega]; exact ei⟩, rfl⟩)))
          exact ⟨k, k0, k1, f2, f1⟩
      cases y with
      | none =>
        obtain ⟨k, k0, k1, f1, f2⟩ := both x (inS x h1) x (inS x h1)
        exact unfit (ck_nums K) K.lo J k0 k1 f1 fun z e => by cases e
      | some y =>
        obtain ⟨k, k0, k1, f1, f2⟩ := both x (inS x h1) y (inS y (h2 y rfl))
        exact unfit (ck_nums K) K.lo J k0 k1 f1 fun z e => by cases e; exact f2
theorem foldl_len {α β : Type} {g : α → List β} {m : Nat} (hg : ∀ x, (g x).length ≤ m) : ∀ (xs : List α) (s : List β), (xs.foldl (fun s x => s ++ g x) s).length ≤ s.length + xs.length * m
  | [], s => by simp
  | x :: xs, s => by
    rw [List.foldl_cons]
    have h1 := foldl_len hg xs (s ++ g x)
    have h2 := hg x
    rw [List.length_append] at h1
    rw [List.length_cons, Nat.add_mul, Nat.one_mul]
    omega
theorem pairs_len (h : sm.length ≤ 4) : (m__law_pairs sm wild).length ≤ 100000 := by
  unfold m__law_pairs
  refine Nat.le_trans (foldl_len (m := 4) (fun x => by rw [List.length_map]; exact Nat.le_trans (cut_len _ _ _) h) _ _) ?_
  rw [enumT_len]
  simp only [List.length_cons, List.length_nil]
  omega
end
end
end B
set_option Elab.async false
set_option linter.all false
set_option maxRecDepth 100000
set_option maxHeartbeats 40000000
namespace B
open PySem PySem.Spec PyProof.Rows L2 Z
section
variable {P : Program} {w : World} {K : PySem.W.Frag} {mg : Str → Option Value} {base : Heap} {CP CA : Addr}
abbrev s25 : Stmt := topS 25
abbrev N25 : List Str := ["script", "draw", "commits", "pages", "many", "answered", "some", "page", "whole", "found", "fits", "number", "less", "late", "wider", "rest", "other", "both", "low", "high", "more", "longer", "least", "names", "turned", "row", "wild", "told", "good", "pair", "small"]
theorem sc25 : FnScope N25 ["script"] (defScope s25) := ⟨rfl, rfl, rfl, by decide +kernel, rfl, by decide +kernel, by decide +kernel⟩
def r_law (K : PySem.W.Frag) : List D → D → Prop := fun ds d => ∃ ns : List Int, ns.length ≤ 63 ∧ ds = [eZ K ns] ∧ d = .bl true
theorem d_law (T : Txt K mg) (Y : Cl K mg CP CA) (Mq : Me P w K mg base CP CA) (Ms : Sh P w K mg base CP CA) (InP : InD P w K mg base 1 "Prefix" CP ["self", "least", "greatest"] rel_initP) (InA : InD P w K mg base 1 "Apart" CA ["self", "one", "other"] rel_initA) (C_take : FnD P w K mg base 2 "_law_take" ["draw", "many"] (r_take K)) (C_commits : FnD P w K mg base 3 "_law_commits" ["draw", "most"] (r_commits K)) (C_judge_contents : FnD P w K mg base 4 "judge_contents" ["commits", "answered", "contents"] (relP (r_judge_contents CP CA))) (C__law_contents : FnD P w K mg base 2 "_law_contents" ["commits", "many", "pages"] (relP r__law_contents)) (C__law_pairs : FnD P w K mg base 1 "_law_pairs" ["some", "wild"] (relP r__law_pairs)) {f : Addr} {fd : FuncData} (Fu : Fun K "law" "law" s25 f fd) : FnOk P w K mg base CX0 7 f fd ["script"] (spG (relP (r_law K))) := by
  refine fn_ok Fu sc25 (fun ds F W d W' h => by obtain ⟨⟨_, _, rfl, _⟩, _⟩ := h; rfl) (fun cdv A outer s H E hr ds W d W' vs F h hv => ?_)
  have nd_ := sc25.nd
  obtain ⟨⟨ns, hz_, rfl, rfl⟩, rfl⟩ := h
  cases hv with | @cons v_script _ _ _ h_script hv => ?_
  cases hv
  refine bl_asgN (i := 1) (en_lst (ea_cons (ev_var (i := 0) rfl h_script) (ea_cons ev_int ea_nil)) (by simp)) (fun dl vs_draw F_ e_ h_draw wn_draw => ?_)
  replace h_script := h_script.mono e_
  cases h_draw with | @cons v1 _ _ _ h_sa h_draw => ?_
  cases h_draw with | cons h2 h_draw => ?_
  cases h_draw
  cases h2
  obtain ⟨sa, rfl⟩ : ∃ sa, v1 = .ref sa := by obtain ⟨sa, _, e, _⟩ := Rep.fz_inv h_sa; exact ⟨sa, e⟩
  change BlkS _ _ _ _ (WK W' dl sa 0) _
  change BlkS _ _ [some v_script, some (.ref dl), none, none, none, none, none, none, none, none, none, none, none, none, none, none, none, none, none, none, none, none, none, none, none, none, none, none, none, none, none] _ _ _
  refine bl_asgT (ev_tup (ea_cons (ev_commits C_commits (hr.mono (by decide)) (ev_var (i := 1) rfl (.ow _)) ev_int (by decide) hz_ h_sa) (ea_cons (ev_lstR (("a" : Str) :: (("b" : Str) :: (("c" : Str) :: (("d" : Str) :: ([] : List Str))))) (ea_consR (f := D.str) (x := ("a" : Str)) ev_str (ea_consR (f := D.str) (x := ("b" : Str)) ev_str (ea_consR (f := D.str) (x := ("c" : Str)) ev_str (ea_consR (f := D.str) (x := ("d" : Str)) ev_str (ea_nilR (f := D.str)))))) (by simp [rg_len, enumT_len]; try omega)) ea_nil)) (by simp)) (fun v_ F_ e2 r1 => ?_)
  replace h_script := h_script.mono e2
  replace h_sa := h_sa.mono e2
  refine tg_tup (ds := [(eR false (eR true D.str)) ((cmOf ns 0 (8 : Int)).1), (eR false D.str) ((("a" : Str) :: (("b" : Str) :: (("c" : Str) :: (("d" : Str) :: ([] : List Str))))))]) r1 (fun vs3 rr4 => ?_)
  cases rr4 with | @cons v_commits _ _ _ h_commits rr4 => ?_
  cases rr4 with | @cons v_pages _ _ _ h_pages rr4 => ?_
  cases rr4
  refine tgs_cons ?_
  refine tg_name (i := 2) ?_
  refine tgs_cons ?_
  refine tg_name (i := 3) ?_
  refine tgs_nil ?_
  have hl_commits := rep_len h_commits
  have hl_pages := rep_len h_pages
  change BlkS _ _ [some v_script, some (.ref dl), some v_commits, some v_pages, none, none, none, none, none, none, none, none, none, none, none, none, none, none, none, none, none, none, none, none, none, none, none, none, none, none, none] _ _ _
  have hcf := cm_facts ns 0
  generalize hcm : cmOf ns 0 (8 : Int) = cm0 at hcf h_commits hl_commits ⊢
  obtain ⟨commits, k1⟩ := cm0
  dsimp only at hcf h_commits hl_commits ⊢
  obtain ⟨hcs, hcl⟩ := hcf
  refine bl_asgF (i := 4) (ev_take C_take (hr.mono (by decide)) (ev_var (i := 1) rfl (.ow _)) (ev_add (ev_blt T.len cl_lenR (ea_cons (ev_var (i := 2) rfl h_commits) ea_nil) rfl) ev_int) (by first | decide | omega) hz_ h_sa) (.int _) ?_
  change BlkS _ _ [some v_script, some (.ref dl), some v_commits, some v_pages, some (.int (tk ns k1 (((commits).length : Int) + (1 : Int)))), none, none, none, none, none, none, none, none, none, none, none, none, none, none, none, none, none, none, none, none, none, none, none, none, none, none] _ _ _
  have hm_ := tk_in ns k1 (many := (commits.length : Int) + 1) (by omega)
  generalize hd_many : (tk ns k1 (((commits).length : Int) + (1 : Int))) = many at hm_ ⊢
  obtain ⟨hm0, hm1⟩ := hm_
  refine bl_asgF (i := 5) (ev_take C_take (hr.mono (by decide)) (ev_var (i := 1) rfl (.ow _)) (ev_add (ev_var (i := 4) rfl (.int _)) ev_int) (by first | decide | omega) hz_ h_sa) (.int _) ?_
  change BlkS _ _ [some v_script, some (.ref dl), some v_commits, some v_pages, some (.int many), some (.int (tk ns (k1 + 1) (many + (1 : Int)))), none, none, none, none, none, none, none, none, none, none, none, none, none, none, none, none, none, none, none, none, none, none, none, none, none] _ _ _
  have ha_ := tk_in ns (k1 + 1) (many := many + 1) (by omega)
  generalize hd_ans : (tk ns (k1 + 1) (many + (1 : Int))) = answered at ha_ ⊢
  obtain ⟨ha0, ha1⟩ := ha_
  refine bl_asg (i := 6) (ev_ofLc (lc_K (own := [("page", 7)]) (f := D.str) (g := D.str) (WK W' dl sa) (k0 := ((k1 + 1) + 1)) (fun (x5 : Str) (k_ : Nat) => ((decide ((0 : Int) < (tk ns k_ (3 : Int)))), (k_ + 1))) (fun (x5 : Str) (k_ : Nat) => ((x5 : Str), k_)) (ei_row (ev_var (i := 3) rfl h_pages)) (by first | (first | assumption | omega | (simp only [List.length_map, enumT_len, rg_len]; omega)) | exact pairs_len hsl | (have := s4_len (hX.cm _ (by assumption)); omega)) (fun x5 hx6 k_ v_ F1_ e_ r7 => by
      replace h_script := h_script.mono e_
      replace h_sa := h_sa.mono e_
      replace h_commits := h_commits.mono e_
      replace h_pages := h_pages.mono e_
      intro s_ H0_ C_ cl_ fp_
      cases r7
      refine tg_name (i := 7) ?_
      refine ⟨((wipe_set (by decide)).trans (wipe_wipe)), fun s_ H0_ C_ cl_ fp_ => ?_, fun ht_ s_ H0_ C_ cl_ fp_ => ?_⟩
      · exact ets_one (et_cm (ev_take C_take (hr.mono (by decide)) (ev_var (i := 1) rfl (.ow _)) ev_int (by first | decide | omega) hz_ h_sa) ev_int cm_gt)
      · exact (ev_var (i := 7) rfl (.str _)))) (ok := blkOk_by (N := N25) (sc := defScope s25) (by decide +kernel))) (fun v_some F_ e8 h_some => ?_)
  have hl_some := rep_len h_some
  replace h_script := h_script.mono e8
  replace h_sa := h_sa.mono e8
  replace h_commits := h_commits.mono e8
  replace h_pages := h_pages.mono e8
  change BlkS _ _ [some v_script, some (.ref dl), some v_commits, some v_pages, some (.int many), some (.int answered), some v_some, none, none, none, none, none, none, none, none, none, none, none, none, none, none, none, none, none, none, none, none, none, none, none, none] _ _ _
  have hsb : ((lcK (fun (x5 : Str) (k_ : Nat) => ((decide ((0 : Int) < (tk ns k_ (3 : Int)))), (k_ + 1))) (fun (x5 : Str) (k_ : Nat) => ((x5 : Str), k_)) (("a" : Str) :: (("b" : Str) :: (("c" : Str) :: (("d" : Str) :: ([] : List Str))))) ((k1 + 1) + 1))).1.Sublist s4L := lcK_sub (fun _ _ => rfl) _ _
  have hl_some := rep_len h_some
  generalize hd_some : (lcK (fun (x5 : Str) (k_ : Nat) => ((decide ((0 : Int) < (tk ns k_ (3 : Int)))), (k_ + 1))) (fun (x5 : Str) (k_ : Nat) => ((x5 : Str), k_)) (("a" : Str) :: (("b" : Str) :: (("c" : Str) :: (("d" : Str) :: ([] : List Str))))) ((k1 + 1) + 1)) = sm0 at hsb h_some hl_some ⊢
  obtain ⟨some_, k2⟩ := sm0
  dsimp only at hsb h_some hl_some ⊢
  have hsl := s4_len hsb
  refine bl_asg (i := 8) (ev_call C__law_contents (hr.mono (by decide)) (ea_cons (ev_var (i := 2) rfl h_commits) (ea_cons (ev_var (i := 4) rfl (.int _)) (ea_cons (ev_var (i := 6) rfl h_some) ea_nil))) (⟨(commits), (many), (some_), (by first | omega | (have := tk_in ns k2 (many := (commits.length : Int) + 1) (by omega); omega) | exact ⟨by omega, by omega, by omega, by rw [List.length_map]; exact Nat.le_trans (List.length_filter_le _ _) (by omega)⟩), rfl, rfl⟩)) (fun v_whole F_ e9 h_whole => ?_)
  replace h_script := h_script.mono e9
  replace h_sa := h_sa.mono e9
  replace h_commits := h_commits.mono e9
  replace h_pages := h_pages.mono e9
  replace h_some := h_some.mono e9
  change BlkS _ _ [some v_script, some (.ref dl), some v_commits, some v_pages, some (.int many), some (.int answered), some v_some, none, some v_whole, none, none, none, none, none, none, none, none, none, none, none, none, none, none, none, none, none, none, none, none, none, none] _ _ _
  generalize hd_whole : (m__law_contents (commits) (many) (some_)) = whole at h_whole
  have hX : Dt commits many answered some_ whole := ⟨hcs, hcl, hm0, by omega, ha0, by omega, hsb, hd_whole⟩
  have hK := hX.ckw
  refine bl_asg (i := 9) (ev_call C_judge_contents (hr.mono (by decide)) (ea_cons (ev_var (i := 2) rfl h_commits) (ea_cons (ev_var (i := 5) rfl (.int _)) (ea_cons (ev_var (i := 8) rfl h_whole) ea_nil))) (⟨(commits), (answered), (whole), (by first | assumption | exact hPr _ (by assumption)), rfl, rfl⟩)) (fun v_found F_ e10 h_found => ?_)
  replace h_script := h_script.mono e10
  replace h_sa := h_sa.mono e10
  replace h_commits := h_commits.mono e10
  replace h_pages := h_pages.mono e10
  replace h_some := h_some.mono e10
  replace h_whole := h_whole.mono e10
  change BlkS _ _ [some v_script, some (.ref dl), some v_commits, some v_pages, some (.int many), some (.int answered), some v_some, none, some v_whole, some v_found, none, none, none, none, none, none, none, none, none, none, none, none, none, none, none, none, none, none, none, none, none] _ _ _
  obtain ⟨flo, fhi, hF⟩ := found_pre hX
  rw [hF.eq] at h_found
  refine bl_asgLc (i := 10) (lc_F (own := [("number", 11)]) (f := D.int) (g := D.int) (fun x11 => (tEq (m__law_contents (commits) (x11) (some_)) whole)) (fun x11 => x11) (ei_range2 T.range (ea_cons (ev_var (i := 5) rfl (.int _)) (ea_cons (ev_add (ev_blt T.len cl_lenR (ea_cons (ev_var (i := 2) rfl h_commits) ea_nil) rfl) ev_int) ea_nil)) (by omega)) (by first | (first | assumption | omega | (simp only [List.length_map, enumT_len, rg_len]; omega) | (simp; done) | (simp; omega)) | exact pairs_len hsl | (have := s4_len (hX.cm _ (by assumption)); omega)) (fun x11 hx12 v_ F1_ e_ r13 => by
      replace h_script := h_script.mono e_
      replace h_sa := h_sa.mono e_
      replace h_commits := h_commits.mono e_
      replace h_pages := h_pages.mono e_
      replace h_some := h_some.mono e_
      replace h_whole := h_whole.mono e_
      replace h_found := h_found.mono e_
      have hx12m := rg_mem.mp hx12
      intro s_ H0_ C_ cl_ fp_
      cases r13
      refine tg_name (i := 11) ?_
      refine ⟨((wipe_set (by decide)).trans (wipe_wipe)), fun s_ H0_ C_ cl_ fp_ => ?_, fun ht_ s_ H0_ C_ cl_ fp_ => ?_⟩
      · exact ets_one (et_cm (ev_call C__law_contents (hr.mono (by decide)) (ea_cons (ev_var (i := 2) rfl h_commits) (ea_cons (ev_var (i := 11) rfl (.int _)) (ea_cons (ev_var (i := 6) rfl h_some) ea_nil))) (⟨(commits), (x11), (some_), (by first | omega | (have := tk_in ns k2 (many := (commits.length : Int) + 1) (by omega); omega) | exact ⟨by omega, by omega, by omega, by rw [List.length_map]; exact Nat.le_trans (List.length_filter_le _ _) (by omega)⟩), rfl, rfl⟩)) (ev_var (i := 8) rfl h_whole) (cm_eqT (g := D.int) (t1 := (m__law_contents (commits) (x11) (some_))) (t2 := whole) hr keS eqF_int))
      · exact (ev_var (i := 11) rfl (.int _)))) (ok := blkOk_by (N := N25) (sc := defScope s25) (by decide +kernel)) (fun v_fits F_ e14 h_fits => ?_)
  have hl_fits := rep_len h_fits
  replace h_script := h_script.mono e14
  replace h_sa := h_sa.mono e14
  replace h_commits := h_commits.mono e14
  replace h_pages := h_pages.mono e14
  replace h_some := h_some.mono e14
  replace h_whole := h_whole.mono e14
  replace h_found := h_found.mono e14
  change BlkS _ _ [some v_script, some (.ref dl), some v_commits, some v_pages, some (.int many), some (.int answered), some v_some, none, some v_whole, some v_found, some v_fits, none, none, none, none, none, none, none, none, none, none, none, none, none, none, none, none, none, none, none, none] _ _ _
  have hfe : ((((rg answered (((commits).length : Int) + (1 : Int)))).filter fun x11 => (tEq (m__law_contents (commits) (x11) (some_)) whole)).map fun x11 => x11) = rg flo (fhi + 1) := fits_eq hX hF
  rw [hfe] at h_fits
  have hfl : 0 < (rg flo (fhi + 1)).length := by have := hF.lh; rw [rg_len2]; omega
  have hK0 := hX.ck0
  refine bl_never (q := ((!decide ((Vd.pre flo fhi) = (Vd.pre (ixI 0 (rg flo (fhi + 1)) (0 : Int)) (ixI 0 (rg flo (fhi + 1)) (-(1 : Int)))))) || ((!(decide (many ∈ (rg flo (fhi + 1))))) || ((!(showsV (Vd.pre flo fhi) commits answered whole)) || (!decide ((m_judge_contents (commits) (0 : Int) ([] : (List (Str × Int)))) = (Vd.pre (0 : Int) ((commits).length : Int)))))))) (et_w (ew_or (et_cm (ev_var (i := 9) rfl h_found) (ev_is (d1 := eVd CP CA (Vd.pre (ixI 0 (rg flo (fhi + 1)) (0 : Int)) (ixI 0 (rg flo (fhi + 1)) (-(1 : Int))))) (ev_make InP (hr.mono (by decide)) (ea_cons (ev_ix (ev_var (i := 10) rfl h_fits) ev_int (ixI_at (d := 0) (by simp; omega))) (ea_cons (ev_ix (ev_var (i := 10) rfl h_fits) (ev_neg ev_int) (ixI_at (d := 0) (by simp; omega))) ea_nil)) ⟨(ixI 0 (rg flo (fhi + 1)) (0 : Int)), (ixI 0 (rg flo (fhi + 1)) (-(1 : Int))), rfl, rfl⟩) rfl) (cm_neVd (u := (Vd.pre flo fhi)) (v := (Vd.pre (ixI 0 (rg flo (fhi + 1)) (0 : Int)) (ixI 0 (rg flo (fhi + 1)) (-(1 : Int))))) Y Mq (hr.mono (by decide)))) (fun hb15 => (ew_or (et_cm (ev_var (i := 4) rfl (.int _)) (ev_var (i := 10) rfl h_fits) (cm_ni (f := D.int) (x := many) (xs := (rg flo (fhi + 1))) hr lw_int) (by with_unfolding_all rfl)) (fun hb16 => (ew_or (et_not (et_val (ev_showsV (v := (Vd.pre flo fhi)) Y Ms (ev_var (i := 9) rfl h_found) (hr.mono (by decide)) (ev_var (i := 2) rfl h_commits) (ev_var (i := 5) rfl (.int _)) (ev_var (i := 8) rfl h_whole) (by exact hK)))) (fun hb17 => (ew_or1 (et_cm (ev_call C_judge_contents (hr.mono (by decide)) (ea_cons (ev_var (i := 2) rfl h_commits) (ea_cons ev_int (ea_cons (ev_newT (kf := Sum.inr) (g := D.int)) ea_nil))) (⟨(commits), (0 : Int), ([] : (List (Str × Int))), (by first | assumption | exact hPr _ (by assumption)), rfl, rfl⟩)) (ev_is (d1 := eVd CP CA (Vd.pre (0 : Int) ((commits).length : Int))) (ev_make InP (hr.mono (by decide)) (ea_cons ev_int (ea_cons (ev_blt T.len cl_lenR (ea_cons (ev_var (i := 2) rfl h_commits) ea_nil) rfl) ea_nil)) ⟨(0 : Int), ((commits).length : Int), rfl, rfl⟩) rfl) (cm_neVd (u := (m_judge_contents (commits) (0 : Int) ([] : (List (Str × Int))))) (v := (Vd.pre (0 : Int) ((commits).length : Int))) Y Mq (hr.mono (by decide)))))))))))) (by exact nv130 hX hF) ?_
  change BlkS _ _ [some v_script, some (.ref dl), some v_commits, some v_pages, some (.int many), some (.int answered), some v_some, none, some v_whole, some v_found, some v_fits, none, none, none, none, none, none, none, none, none, none, none, none, none, none, none, none, none, none, none, none] _ _ _
  refine bl_forK (xs := some_) (f := D.str) (ei_row (ev_var (i := 6) rfl h_some)) (fun (sv19 : Unit) (x20 : Str) => ()) () (fun i_ (s_ : Unit) σ_ F_ W_ => ∃ (o_page : Option V) (o_less : Option V) (o_wider : Option V), σ_ = [some v_script, some (.ref dl), some v_commits, some v_pages, some (.int many), some (.int answered), some v_some, o_page, some v_whole, some v_found, some v_fits, none, o_less, none, o_wider, none, none, none, none, none, none, none, none, none, none, none, none, none, none, none, none] ∧ (WK W' dl sa k2) = W_) (fun F_ e_ => ?_) (fun i24 x20 hi25 hx22 sv19 σ_ F_ W_ e_ J_ v_ F2_ e2_ r23 => ?_) (fun σ_ F_ W_ e_ J_ => ?_)
  · replace h_script := h_script.mono e_
    replace h_sa := h_sa.mono e_
    replace h_commits := h_commits.mono e_
    replace h_pages := h_pages.mono e_
    replace h_some := h_some.mono e_
    replace h_whole := h_whole.mono e_
    replace h_found := h_found.mono e_
    replace h_fits := h_fits.mono e_
    exact ⟨_, _, _, rfl, rfl⟩
  · replace h_script := h_script.mono e_
    replace h_sa := h_sa.mono e_
    replace h_commits := h_commits.mono e_
    replace h_pages := h_pages.mono e_
    replace h_some := h_some.mono e_
    replace h_whole := h_whole.mono e_
    replace h_found := h_found.mono e_
    replace h_fits := h_fits.mono e_
    obtain ⟨o_page, o_less, o_wider, rfl, rfl⟩ := J_
    replace h_script := h_script.mono e2_
    replace h_sa := h_sa.mono e2_
    replace h_commits := h_commits.mono e2_
    replace h_pages := h_pages.mono e2_
    replace h_some := h_some.mono e2_
    replace h_whole := h_whole.mono e2_
    replace h_found := h_found.mono e2_
    replace h_fits := h_fits.mono e2_
    cases r23
    refine tg_name (i := 7) ?_
    change BlkS _ _ [some v_script, some (.ref dl), some v_commits, some v_pages, some (.int many), some (.int answered), some v_some, some (.str x20), some v_whole, some v_found, some v_fits, none, o_less, none, o_wider, none, none, none, none, none, none, none, none, none, none, none, none, none, none, none, none] _ _ _
    refine bl_asg (i := 12) (ev_call C__law_contents (hr.mono (by decide)) (ea_cons (ev_var (i := 2) rfl h_commits) (ea_cons (ev_var (i := 4) rfl (.int _)) (ea_cons (ev_ofLc (lc_F (own := [("late", 13)]) (f := D.str) (g := D.str) (fun x26 => (!decide (x26 = x20))) (fun x26 => x26) (ei_row (ev_var (i := 6) rfl h_some)) (by first | (first | exact rep_len h_some | assumption | omega | (simp only [List.length_map, enumT_len, rg_len]; omega) | (simp; done) | (simp; omega)) | exact pairs_len hsl | (have := s4_len (hX.cm _ (by assumption)); omega)) (fun x26 hx27 v_ F1_ e_ r28 => by
      replace h_script := h_script.mono e_
      replace h_sa := h_sa.mono e_
      replace h_commits := h_commits.mono e_
      replace h_pages := h_pages.mono e_
      replace h_some := h_some.mono e_
      replace h_whole := h_whole.mono e_
      replace h_found := h_found.mono e_
      replace h_fits := h_fits.mono e_
      intro s_ H0_ C_ cl_ fp_
      cases r28
      refine tg_name (i := 13) ?_
      refine ⟨((wipe_set (by decide)).trans (wipe_wipe)), fun s_ H0_ C_ cl_ fp_ => ?_, fun ht_ s_ H0_ C_ cl_ fp_ => ?_⟩
      · exact ets_one (et_cm (ev_var (i := 13) rfl (.str _)) (ev_var (i := 7) rfl (.str _)) (cm_ne (f := D.str) (x := x26) (y := x20) hr lw_str))
      · exact (ev_var (i := 13) rfl (.str _)))) (ok := blkOk_by (N := N25) (sc := defScope s25) (by decide +kernel))) ea_nil))) (⟨(commits), (many), (((some_).filter fun x26 => (!decide (x26 = x20))).map fun x26 => x26), (by first | omega | (have := tk_in ns k2 (many := (commits.length : Int) + 1) (by omega); omega) | exact ⟨by omega, by omega, by omega, by rw [List.length_map]; exact Nat.le_trans (List.length_filter_le _ _) (by omega)⟩), rfl, rfl⟩)) (fun v_less F_ e29 h_less => ?_)
    replace h_script := h_script.mono e29
    replace h_sa := h_sa.mono e29
    replace h_commits := h_commits.mono e29
    replace h_pages := h_pages.mono e29
    replace h_some := h_some.mono e29
    replace h_whole := h_whole.mono e29
    replace h_found := h_found.mono e29
    replace h_fits := h_fits.mono e29
    change BlkS _ _ [some v_script, some (.ref dl), some v_commits, some v_pages, some (.int many), some (.int answered), some v_some, some (.str x20), some v_whole, some v_found, some v_fits, none, some v_less, none, o_wider, none, none, none, none, none, none, none, none, none, none, none, none, none, none, none, none] _ _ _
    generalize hd_less : (m__law_contents (commits) (many) (((some_).filter fun x26 => (!decide (x26 = x20))).map fun x26 => x26)) = less at h_less
    have hKl := hX.ckless hd_less
    refine bl_asg (i := 14) (ev_call C_judge_contents (hr.mono (by decide)) (ea_cons (ev_var (i := 2) rfl h_commits) (ea_cons (ev_var (i := 5) rfl (.int _)) (ea_cons (ev_var (i := 12) rfl h_less) ea_nil))) (⟨(commits), (answered), (less), (by first | assumption | exact hPr _ (by assumption)), rfl, rfl⟩)) (fun v_wider F_ e30 h_wider => ?_)
    replace h_script := h_script.mono e30
    replace h_sa := h_sa.mono e30
    replace h_commits := h_commits.mono e30
    replace h_pages := h_pages.mono e30
    replace h_some := h_some.mono e30
    replace h_whole := h_whole.mono e30
    replace h_found := h_found.mono e30
    replace h_fits := h_fits.mono e30
    replace h_less := h_less.mono e30
    change BlkS _ _ [some v_script, some (.ref dl), some v_commits, some v_pages, some (.int many), some (.int answered), some v_some, some (.str x20), some v_whole, some v_found, some v_fits, none, some v_less, none, some v_wider, none, none, none, none, none, none, none, none, none, none, none, none, none, none, none, none] _ _ _
    obtain ⟨wlo, whi, hW, hW1, hW2⟩ := wider_pre hX hF hd_less
    rw [hW] at h_wider
    refine bl_never (q := ((!((Vd.pre wlo whi)).isPre) || ((decide (((Vd.pre flo fhi)).low.1 < ((Vd.pre wlo whi)).low.1)) || (decide (((Vd.pre wlo whi)).low.2 < ((Vd.pre flo fhi)).low.2))))) (et_w (ew_or (et_not (et_Vd (v := (Vd.pre wlo whi)) Mq (ev_var (i := 14) rfl h_wider) (hr.mono (by decide)))) (fun hb31 => (ew_or (et_cm (ev_fld (ev_is (ev_var (i := 14) rfl h_wider) (eVd_pre (by first | rfl | assumption | (have q_ := hb31; simpa using q_)))) Y.p.cls Y.least rfl) (ev_fld (ev_is (ev_var (i := 9) rfl h_found) (eVd_pre (by first | rfl | assumption))) Y.p.cls Y.least rfl) cm_gt) (fun hb32 => (ew_or1 (et_cm (ev_fld (ev_is (ev_var (i := 14) rfl h_wider) (eVd_pre (by first | rfl | assumption | (have q_ := hb31; simpa using q_)))) Y.p.cls Y.greatest rfl) (ev_fld (ev_is (ev_var (i := 9) rfl h_found) (eVd_pre (by first | rfl | assumption))) Y.p.cls Y.greatest rfl) cm_lt))))))) (by exact nv135 hW1 hW2) ?_
    exact bl_nil ⟨_, _, _, rfl, rfl⟩
  · replace h_script := h_script.mono e_
    replace h_sa := h_sa.mono e_
    replace h_commits := h_commits.mono e_
    replace h_pages := h_pages.mono e_
    replace h_some := h_some.mono e_
    replace h_whole := h_whole.mono e_
    replace h_found := h_found.mono e_
    replace h_fits := h_fits.mono e_
    obtain ⟨o_page, o_less, o_wider, rfl, rfl⟩ := J_
    change BlkS _ _ [some v_script, some (.ref dl), some v_commits, some v_pages, some (.int many), some (.int answered), some v_some, o_page, some v_whole, some v_found, some v_fits, none, o_less, none, o_wider, none, none, none, none, none, none, none, none, none, none, none, none, none, none, none, none] _ _ _
    refine bl_asgLc (i := 15) (lc_F (own := [("page", 7)]) (f := D.str) (g := D.str) (fun x34 => (!(decide (x34 ∈ some_)))) (fun x34 => x34) (ei_row (ev_var (i := 3) rfl h_pages)) (by first | (first | exact rep_len h_pages | assumption | omega | (simp only [List.length_map, enumT_len, rg_len]; omega) | (simp; done) | (simp; omega)) | exact pairs_len hsl | (have := s4_len (hX.cm _ (by assumption)); omega)) (fun x34 hx35 v_ F1_ e_ r36 => by
      replace h_script := h_script.mono e_
      replace h_sa := h_sa.mono e_
      replace h_commits := h_commits.mono e_
      replace h_pages := h_pages.mono e_
      replace h_some := h_some.mono e_
      replace h_whole := h_whole.mono e_
      replace h_found := h_found.mono e_
      replace h_fits := h_fits.mono e_
      intro s_ H0_ C_ cl_ fp_
      cases r36
      refine tg_name (i := 7) ?_
      refine ⟨((wipe_set (by decide)).trans (wipe_wipe)), fun s_ H0_ C_ cl_ fp_ => ?_, fun ht_ s_ H0_ C_ cl_ fp_ => ?_⟩
      · exact ets_one (et_cm (ev_var (i := 7) rfl (.str _)) (ev_var (i := 6) rfl h_some) (cm_ni (f := D.str) (x := x34) (xs := some_) hr lw_str) (by with_unfolding_all rfl))
      · exact (ev_var (i := 7) rfl (.str _)))) (ok := blkOk_by (N := N25) (sc := defScope s25) (by decide +kernel)) (fun v_rest F_ e37 h_rest => ?_)
    have hl_rest := rep_len h_rest
    replace h_script := h_script.mono e37
    replace h_sa := h_sa.mono e37
    replace h_commits := h_commits.mono e37
    replace h_pages := h_pages.mono e37
    replace h_some := h_some.mono e37
    replace h_whole := h_whole.mono e37
    replace h_found := h_found.mono e37
    replace h_fits := h_fits.mono e37
    change BlkS _ _ [some v_script, some (.ref dl), some v_commits, some v_pages, some (.int many), some (.int answered), some v_some, o_page, some v_whole, some v_found, some v_fits, none, o_less, none, o_wider, some v_rest, none, none, none, none, none, none, none, none, none, none, none, none, none, none, none] _ _ _
    have hl_rest := rep_len h_rest
    generalize hd_rest : ((((("a" : Str) :: (("b" : Str) :: (("c" : Str) :: (("d" : Str) :: ([] : List Str)))))).filter fun x34 => (!(decide (x34 ∈ some_)))).map fun x34 => x34) = rest at h_rest hl_rest
    have hR := rest_of hX hd_rest
    have hrl := s4_len hR.1
    refine bl_asg (i := 13) (ev_call C__law_contents (hr.mono (by decide)) (ea_cons (ev_var (i := 2) rfl h_commits) (ea_cons (ev_take C_take (hr.mono (by decide)) (ev_var (i := 1) rfl (.ow _)) (ev_add (ev_blt T.len cl_lenR (ea_cons (ev_var (i := 2) rfl h_commits) ea_nil) rfl) ev_int) (by first | decide | omega) hz_ h_sa) (ea_cons (ev_var (i := 15) rfl h_rest) ea_nil))) (⟨(commits), (tk ns k2 (((commits).length : Int) + (1 : Int))), (rest), (by first | omega | (have := tk_in ns k2 (many := (commits.length : Int) + 1) (by omega); omega) | exact ⟨by omega, by omega, by omega, by rw [List.length_map]; exact Nat.le_trans (List.length_filter_le _ _) (by omega)⟩), rfl, rfl⟩)) (fun v_late F_ e38 h_late => ?_)
    replace h_script := h_script.mono e38
    replace h_sa := h_sa.mono e38
    replace h_commits := h_commits.mono e38
    replace h_pages := h_pages.mono e38
    replace h_some := h_some.mono e38
    replace h_whole := h_whole.mono e38
    replace h_found := h_found.mono e38
    replace h_fits := h_fits.mono e38
    replace h_rest := h_rest.mono e38
    change BlkS _ _ [some v_script, some (.ref dl), some v_commits, some v_pages, some (.int many), some (.int answered), some v_some, o_page, some v_whole, some v_found, some v_fits, none, o_less, some v_late, o_wider, some v_rest, none, none, none, none, none, none, none, none, none, none, none, none, none, none, none] _ _ _
    have hk_ := tk_in ns k2 (many := (commits.length : Int) + 1) (by omega)
    generalize hd_lk : tk ns k2 ((commits.length : Int) + (1 : Int)) = lk at hk_ h_late
    generalize hd_late : m__law_contents commits lk rest = late at h_late
    have hKt := hX.cklate hR hk_ hd_late
    have hKb := hX.ckboth hR hk_ hd_late
    refine bl_par2 (i := 16) (j := 17) (ea_cons (ev_call C_judge_contents (hr.mono (by decide)) (ea_cons (ev_var (i := 2) rfl h_commits) (ea_cons (ev_var (i := 5) rfl (.int _)) (ea_cons (ev_var (i := 13) rfl h_late) ea_nil))) (⟨(commits), (answered), (late), (by first | assumption | exact hPr _ (by assumption)), rfl, rfl⟩)) (ea_cons (ev_call C_judge_contents (hr.mono (by decide)) (ea_cons (ev_var (i := 2) rfl h_commits) (ea_cons (ev_var (i := 5) rfl (.int _)) (ea_cons (ev_bty T.dict (cl_dict keS) (ea_cons (ev_catR (ev_itemsL (g := D.int) keS T.list (ev_var (i := 8) rfl h_whole)) (ev_itemsL (g := D.int) keS T.list (ev_var (i := 13) rfl h_late)) (by first | (simp; omega) | (have := hK.sz; have := hKt.sz; omega) | (split <;> simp))) ea_nil) rfl) ea_nil))) (⟨(commits), (answered), (tOf (whole ++ late)), (by first | assumption | exact hPr _ (by assumption)), rfl, rfl⟩)) ea_nil)) (fun v_other v_both F_ e39 h_other h_both => ?_)
    replace h_script := h_script.mono e39
    replace h_sa := h_sa.mono e39
    replace h_commits := h_commits.mono e39
    replace h_pages := h_pages.mono e39
    replace h_some := h_some.mono e39
    replace h_whole := h_whole.mono e39
    replace h_found := h_found.mono e39
    replace h_fits := h_fits.mono e39
    replace h_rest := h_rest.mono e39
    replace h_late := h_late.mono e39
    change BlkS _ _ [some v_script, some (.ref dl), some v_commits, some v_pages, some (.int many), some (.int answered), some v_some, o_page, some v_whole, some v_found, some v_fits, none, o_less, some v_late, o_wider, some v_rest, some v_other, some v_both, none, none, none, none, none, none, none, none, none, none, none, none, none] _ _ _
    generalize hd_other : (m_judge_contents (commits) (answered) (late)) = other at h_other
    generalize hd_both : (m_judge_contents (commits) (answered) (tOf (whole ++ late))) = both at h_both
    have hO := other_of hX hF hR hk_ hd_late hd_other hd_both
    refine bl_join (fun σ_ F_ W_ => ∃ (o_low : Option V) (o_high : Option V), σ_ = [some v_script, some (.ref dl), some v_commits, some v_pages, some (.int many), some (.int answered), some v_some, o_page, some v_whole, some v_found, some v_fits, none, o_less, some v_late, o_wider, some v_rest, some v_other, some v_both, o_low, o_high, none, none, none, none, none, none, none, none, none, none, none] ∧ Rep F_ (v_script) ((eZ K) ns) ∧ Rep F_ (.ref sa) ((eZ K) ns) ∧ Rep F_ (v_commits) ((eR false (eR true D.str)) commits) ∧ Rep F_ (v_pages) ((eR false D.str) (("a" : Str) :: (("b" : Str) :: (("c" : Str) :: (("d" : Str) :: ([] : List Str)))))) ∧ Rep F_ (v_some) ((eR false D.str) some_) ∧ Rep F_ (v_whole) ((eT Sum.inr D.int) whole) ∧ Rep F_ (v_found) ((eVd CP CA) (Vd.pre flo fhi)) ∧ Rep F_ (v_fits) ((eR false D.int) (rg flo (fhi + 1))) ∧ Rep F_ (v_rest) ((eR false D.str) rest) ∧ Rep F_ (v_late) ((eT Sum.inr D.int) late) ∧ Rep F_ (v_other) ((eVd CP CA) other) ∧ Rep F_ (v_both) ((eVd CP CA) both) ∧ (WK W' dl sa (k2 + 1)) = W_) (fun kJ_ => ?_) (fun σ_ F_ W_ J_ => ?_)
    · refine bl_if (q := (other).isPre) (et_Vd (v := other) Mq (ev_var (i := 16) rfl h_other) (hr.mono (by decide))) (fun hq40 => ?_) (fun hq40 => ?_)
      · change BlkS _ _ [some v_script, some (.ref dl), some v_commits, some v_pages, some (.int many), some (.int answered), some v_some, o_page, some v_whole, some v_found, some v_fits, none, o_less, some v_late, o_wider, some v_rest, some v_other, some v_both, none, none, none, none, none, none, none, none, none, none, none, none, none] _ _ _
        refine bl_par2 (i := 18) (j := 19) (ea_cons (ev_blt T.max cl_max2 (ea_cons (ev_fld (ev_is (ev_var (i := 9) rfl h_found) (eVd_pre (by first | rfl | assumption))) Y.p.cls Y.least rfl) (ea_cons (ev_fld (ev_is (ev_var (i := 16) rfl h_other) (eVd_pre (by first | rfl | assumption | (have q_ := hq40; simpa using q_)))) Y.p.cls Y.least rfl) ea_nil)) rfl) (ea_cons (ev_blt T.min cl_min2 (ea_cons (ev_fld (ev_is (ev_var (i := 9) rfl h_found) (eVd_pre (by first | rfl | assumption))) Y.p.cls Y.greatest rfl) (ea_cons (ev_fld (ev_is (ev_var (i := 16) rfl h_other) (eVd_pre (by first | rfl | assumption | (have q_ := hq40; simpa using q_)))) Y.p.cls Y.greatest rfl) ea_nil)) rfl) ea_nil)) (fun w47 w48 F_ e41 h_low h_high => ?_)
        replace h_script := h_script.mono e41
        replace h_sa := h_sa.mono e41
        replace h_commits := h_commits.mono e41
        replace h_pages := h_pages.mono e41
        replace h_some := h_some.mono e41
        replace h_whole := h_whole.mono e41
        replace h_found := h_found.mono e41
        replace h_fits := h_fits.mono e41
        replace h_rest := h_rest.mono e41
        replace h_late := h_late.mono e41
        replace h_other := h_other.mono e41
        replace h_both := h_both.mono e41
        cases h_low
        cases h_high
        change BlkS _ _ [some v_script, some (.ref dl), some v_commits, some v_pages, some (.int many), some (.int answered), some v_some, o_page, some v_whole, some v_found, some v_fits, none, o_less, some v_late, o_wider, some v_rest, some v_other, some v_both, some (.int (if (other).low.1 > ((Vd.pre flo fhi)).low.1 then (other).low.1 else ((Vd.pre flo fhi)).low.1)), some (.int (if (other).low.2 < ((Vd.pre flo fhi)).low.2 then (other).low.2 else ((Vd.pre flo fhi)).low.2)), none, none, none, none, none, none, none, none, none, none, none] _ _ _
        have hB := both_of hX hF hR hk_ hd_late hd_other hd_both hq40
        generalize hd_low : (if (other).low.1 > ((Vd.pre flo fhi)).low.1 then (other).low.1 else ((Vd.pre flo fhi)).low.1) = low at hB ⊢
        generalize hd_high : (if (other).low.2 < ((Vd.pre flo fhi)).low.2 then (other).low.2 else ((Vd.pre flo fhi)).low.2) = high at hB ⊢
        refine bl_never (q := ((!decide ((both).isPre = (decide (low ≤ high)))) || (((decide (low ≤ high)) && (!decide (both = (Vd.pre low high)))) || ((decide (high < low)) && (decide ((decide ((both).two.1 ∈ some_)) = (decide ((((both).two.2).getD ("" : Str)) ∈ some_)))))))) (et_w (ew_or (et_cm (ev_boolVd (v := both) Mq T.bool (ev_var (i := 17) rfl h_both) (hr.mono (by decide))) (ev_cm (ev_var (i := 18) rfl (.int _)) (ev_var (i := 19) rfl (.int _)) cm_le) (cm_ne (f := D.bl) (x := (both).isPre) (y := (decide (low ≤ high))) hr lw_bl)) (fun hb42 => (ew_or (et_w (ew_and (et_cm (ev_var (i := 18) rfl (.int _)) (ev_var (i := 19) rfl (.int _)) cm_le) (fun hb43 => (ew_and1 (et_cm (ev_var (i := 17) rfl h_both) (ev_is (d1 := eVd CP CA (Vd.pre low high)) (ev_make InP (hr.mono (by decide)) (ea_cons (ev_var (i := 18) rfl (.int _)) (ea_cons (ev_var (i := 19) rfl (.int _)) ea_nil)) ⟨low, high, rfl, rfl⟩) rfl) (cm_neVd (u := both) (v := (Vd.pre low high)) Y Mq (hr.mono (by decide)))))))) (fun hb44 => (ew_or1 (et_w (ew_and (et_cm (ev_var (i := 18) rfl (.int _)) (ev_var (i := 19) rfl (.int _)) cm_gt) (fun hb45 => (ew_and1 (et_cm (ev_cm (ev_fld (ev_is (ev_var (i := 17) rfl h_both) (eVd_two (by first | assumption | exact hB.2.1 (of_decide_eq_true (by assumption)) | (first | rfl | assumption | (have q_ := hb42; simpa using q_))))) Y.a.cls Y.one rfl) (ev_var (i := 6) rfl h_some) (cm_in (f := D.str) (x := (both).two.1) (xs := some_) hr lw_str) (by with_unfolding_all rfl)) (ev_cm (ev_is (d1 := D.str (((both).two.2).getD ("" : Str))) (ev_fld (ev_is (ev_var (i := 17) rfl h_both) (eVd_two (by first | assumption | exact hB.2.1 (of_decide_eq_true (by assumption)) | (first | rfl | assumption | (have q_ := hb42; simpa using q_))))) Y.a.cls Y.other rfl) (eO_get (by first | exact hB.2.2.1 (of_decide_eq_true (by assumption)) | (assumption)))) (ev_var (i := 6) rfl h_some) (cm_in (f := D.str) (x := (((both).two.2).getD ("" : Str))) (xs := some_) hr lw_str) (by with_unfolding_all rfl)) (cm_eq (f := D.bl) (x := (decide ((both).two.1 ∈ some_))) (y := (decide ((((both).two.2).getD ("" : Str)) ∈ some_))) hr lw_bl)))))))))))) (by exact nv142 hB) ?_
        exact bl_goes (kJ_ _ _ _ ⟨_, _, rfl, h_script, h_sa, h_commits, h_pages, h_some, h_whole, h_found, h_fits, h_rest, h_late, h_other, h_both, rfl⟩)
      · change BlkS _ _ [some v_script, some (.ref dl), some v_commits, some v_pages, some (.int many), some (.int answered), some v_some, o_page, some v_whole, some v_found, some v_fits, none, o_less, some v_late, o_wider, some v_rest, some v_other, some v_both, none, none, none, none, none, none, none, none, none, none, none, none, none] _ _ _
        refine bl_never (q := ((both).isPre || ((!((other).two.2).isNone) && (decide ((other).two.1 ∈ some_))))) (et_w (ew_or (et_Vd (v := both) Mq (ev_var (i := 17) rfl h_both) (hr.mono (by decide))) (fun hb49 => (ew_or1 (et_w (ew_and (et_cm (ev_fld (ev_is (ev_var (i := 16) rfl h_other) (eVd_two (by first | assumption | exact hB.2.1 (of_decide_eq_true (by assumption)) | (first | rfl | assumption | (have q_ := hq40; simpa using q_))))) Y.a.cls Y.other rfl) ev_non (cm_isnotO (f := D.str) (x := (other).two.2) (fun _ => rfl))) (fun hb50 => (ew_and1 (et_cm (ev_fld (ev_is (ev_var (i := 16) rfl h_other) (eVd_two (by first | assumption | exact hB.2.1 (of_decide_eq_true (by assumption)) | (first | rfl | assumption | (have q_ := hq40; simpa using q_))))) Y.a.cls Y.one rfl) (ev_var (i := 6) rfl h_some) (cm_in (f := D.str) (x := (other).two.1) (xs := some_) hr lw_str) (by with_unfolding_all rfl)))))))))) (by exact nv144 hO (by assumption)) ?_
        exact bl_goes (kJ_ _ _ _ ⟨_, _, rfl, h_script, h_sa, h_commits, h_pages, h_some, h_whole, h_found, h_fits, h_rest, h_late, h_other, h_both, rfl⟩)
    · obtain ⟨o_low, o_high, rfl, h_script, h_sa, h_commits, h_pages, h_some, h_whole, h_found, h_fits, h_rest, h_late, h_other, h_both, rfl⟩ := J_
      change BlkS _ _ [some v_script, some (.ref dl), some v_commits, some v_pages, some (.int many), some (.int answered), some v_some, o_page, some v_whole, some v_found, some v_fits, none, o_less, some v_late, o_wider, some v_rest, some v_other, some v_both, o_low, o_high, none, none, none, none, none, none, none, none, none, none, none] _ _ _
      refine bl_asg (i := 20) (ev_catR (ev_var (i := 2) rfl h_commits) (ev_lstR (rest :: ([] : List (List Str))) (ea_consR (f := (eR true D.str)) (x := rest) (ev_bty T.tuple cl_tupleR (ea_cons (ev_var (i := 15) rfl h_rest) ea_nil) rfl) (ea_nilR (f := (eR true D.str)))) (by simp [rg_len, enumT_len]; try omega)) (by first | (simp; omega) | (have := hK.sz; have := hKt.sz; omega) | (split <;> simp))) (fun v_more F_ e52 h_more => ?_)
      have hl_more := rep_len h_more
      replace h_script := h_script.mono e52
      replace h_sa := h_sa.mono e52
      replace h_commits := h_commits.mono e52
      replace h_pages := h_pages.mono e52
      replace h_some := h_some.mono e52
      replace h_whole := h_whole.mono e52
      replace h_found := h_found.mono e52
      replace h_fits := h_fits.mono e52
      replace h_rest := h_rest.mono e52
      replace h_late := h_late.mono e52
      replace h_other := h_other.mono e52
      replace h_both := h_both.mono e52
      change BlkS _ _ [some v_script, some (.ref dl), some v_commits, some v_pages, some (.int many), some (.int answered), some v_some, o_page, some v_whole, some v_found, some v_fits, none, o_less, some v_late, o_wider, some v_rest, some v_other, some v_both, o_low, o_high, some v_more, none, none, none, none, none, none, none, none, none, none] _ _ _
      have hl_more := rep_len h_more
      generalize hd_more : (commits ++ (rest :: ([] : List (List Str)))) = more at h_more hl_more
      have hKm := hX.ckmore hR hd_more
      refine bl_asg (i := 21) (ev_call C_judge_contents (hr.mono (by decide)) (ea_cons (ev_var (i := 20) rfl h_more) (ea_cons (ev_var (i := 5) rfl (.int _)) (ea_cons (ev_var (i := 8) rfl h_whole) ea_nil))) (⟨(more), (answered), (whole), (by first | assumption | exact hPr _ (by assumption)), rfl, rfl⟩)) (fun v_longer F_ e53 h_longer => ?_)
      replace h_script := h_script.mono e53
      replace h_sa := h_sa.mono e53
      replace h_commits := h_commits.mono e53
      replace h_pages := h_pages.mono e53
      replace h_some := h_some.mono e53
      replace h_whole := h_whole.mono e53
      replace h_found := h_found.mono e53
      replace h_fits := h_fits.mono e53
      replace h_rest := h_rest.mono e53
      replace h_late := h_late.mono e53
      replace h_other := h_other.mono e53
      replace h_both := h_both.mono e53
      replace h_more := h_more.mono e53
      change BlkS _ _ [some v_script, some (.ref dl), some v_commits, some v_pages, some (.int many), some (.int answered), some v_some, o_page, some v_whole, some v_found, some v_fits, none, o_less, some v_late, o_wider, some v_rest, some v_other, some v_both, o_low, o_high, some v_more, some v_longer, none, none, none, none, none, none, none, none, none] _ _ _
      have hLo := longer_of hX hF hR hd_more
      rw [hLo] at h_longer
      refine bl_never (q := ((!decide (((Vd.pre flo (if fhi = (commits.length : Int) then fhi + 1 else fhi))).low.1 = ((Vd.pre flo fhi)).low.1)) || (!decide (((Vd.pre flo (if fhi = (commits.length : Int) then fhi + 1 else fhi))).low.2 = (if (decide (((Vd.pre flo fhi)).low.2 = ((commits).length : Int))) = true then (((Vd.pre flo fhi)).low.2 + (1 : Int)) else ((Vd.pre flo fhi)).low.2))))) (et_w (ew_or (et_cm (ev_fld (ev_is (ev_var (i := 21) rfl h_longer) (eVd_pre (by first | rfl | assumption))) Y.p.cls Y.least rfl) (ev_fld (ev_is (ev_var (i := 9) rfl h_found) (eVd_pre (by first | rfl | assumption))) Y.p.cls Y.least rfl) (cm_ne (f := D.int) (x := ((Vd.pre flo (if fhi = (commits.length : Int) then fhi + 1 else fhi))).low.1) (y := ((Vd.pre flo fhi)).low.1) hr lw_int)) (fun hb54 => (ew_or1 (et_cm (ev_fld (ev_is (ev_var (i := 21) rfl h_longer) (eVd_pre (by first | rfl | assumption))) Y.p.cls Y.greatest rfl) (ev_if (f := D.int) (x := (((Vd.pre flo fhi)).low.2 + (1 : Int))) (y := ((Vd.pre flo fhi)).low.2) (et_cm (ev_fld (ev_is (ev_var (i := 9) rfl h_found) (eVd_pre (by first | rfl | assumption))) Y.p.cls Y.greatest rfl) (ev_blt T.len cl_lenR (ea_cons (ev_var (i := 2) rfl h_commits) ea_nil) rfl) (cm_eq (f := D.int) (x := ((Vd.pre flo fhi)).low.2) (y := ((commits).length : Int)) hr lw_int)) (fun hi55 => (ev_add (ev_fld (ev_is (ev_var (i := 9) rfl h_found) (eVd_pre (by first | rfl | assumption))) Y.p.cls Y.greatest rfl) ev_int)) (fun hi56 => (ev_fld (ev_is (ev_var (i := 9) rfl h_found) (eVd_pre (by first | rfl | assumption))) Y.p.cls Y.greatest rfl))) (cm_ne (f := D.int) (x := ((Vd.pre flo (if fhi = (commits.length : Int) then fhi + 1 else fhi))).low.2) (y := (if (decide (((Vd.pre flo fhi)).low.2 = ((commits).length : Int))) = true then (((Vd.pre flo fhi)).low.2 + (1 : Int)) else ((Vd.pre flo fhi)).low.2)) hr lw_int)))))) (by exact nv148) ?_
      change BlkS _ _ [some v_script, some (.ref dl), some v_commits, some v_pages, some (.int many), some (.int answered), some v_some, o_page, some v_whole, some v_found, some v_fits, none, o_less, some v_late, o_wider, some v_rest, some v_other, some v_both, o_low, o_high, some v_more, some v_longer, none, none, none, none, none, none, none, none, none] _ _ _
      have hKs1 := hX.cks1
      have hKs2 := hX.cks2
      refine bl_never (q := (((!decide (some_ = ([] : List Str))) && (!decide ((m_judge_contents (commits ++ (some_ :: ([] : List (List Str)))) (answered) (whole)) = (Vd.pre ((Vd.pre flo fhi)).low.1 ((Vd.pre flo fhi)).low.2)))) || ((!decide (some_ = ([] : List Str))) && ((m_judge_contents (commits ++ (some_ :: ([] : List (List Str)))) (((commits).length : Int) + (1 : Int)) (whole))).isPre))) (et_w (ew_or (et_w (ew_and (et_cm (ev_var (i := 6) rfl h_some) (ev_lstR ([] : List Str) (ea_nilR (f := D.str)) (by simp [rg_len, enumT_len]; try omega)) (cm_ne (f := (eR false D.str)) (x := some_) (y := ([] : List Str)) hr (Lw.row lw_str))) (fun hb58 => (ew_and1 (et_cm (ev_call C_judge_contents (hr.mono (by decide)) (ea_cons (ev_catR (ev_var (i := 2) rfl h_commits) (ev_lstR (some_ :: ([] : List (List Str))) (ea_consR (f := (eR true D.str)) (x := some_) (ev_bty T.tuple cl_tupleR (ea_cons (ev_var (i := 6) rfl h_some) ea_nil) rfl) (ea_nilR (f := (eR true D.str)))) (by simp [rg_len, enumT_len]; try omega)) (by first | (simp; omega) | (have := hK.sz; have := hKt.sz; omega) | (split <;> simp))) (ea_cons (ev_var (i := 5) rfl (.int _)) (ea_cons (ev_var (i := 8) rfl h_whole) ea_nil))) (⟨(commits ++ (some_ :: ([] : List (List Str)))), (answered), (whole), (by first | assumption | exact hPr _ (by assumption)), rfl, rfl⟩)) (ev_is (d1 := eVd CP CA (Vd.pre ((Vd.pre flo fhi)).low.1 ((Vd.pre flo fhi)).low.2)) (ev_make InP (hr.mono (by decide)) (ea_cons (ev_fld (ev_is (ev_var (i := 9) rfl h_found) (eVd_pre (by first | rfl | assumption))) Y.p.cls Y.least rfl) (ea_cons (ev_fld (ev_is (ev_var (i := 9) rfl h_found) (eVd_pre (by first | rfl | assumption))) Y.p.cls Y.greatest rfl) ea_nil)) ⟨((Vd.pre flo fhi)).low.1, ((Vd.pre flo fhi)).low.2, rfl, rfl⟩) rfl) (cm_neVd (u := (m_judge_contents (commits ++ (some_ :: ([] : List (List Str)))) (answered) (whole))) (v := (Vd.pre ((Vd.pre flo fhi)).low.1 ((Vd.pre flo fhi)).low.2)) Y Mq (hr.mono (by decide)))))))) (fun hb59 => (ew_or1 (et_w (ew_and (et_cm (ev_var (i := 6) rfl h_some) (ev_lstR ([] : List Str) (ea_nilR (f := D.str)) (by simp [rg_len, enumT_len]; try omega)) (cm_ne (f := (eR false D.str)) (x := some_) (y := ([] : List Str)) hr (Lw.row lw_str))) (fun hb60 => (ew_and1 (et_Vd (v := (m_judge_contents (commits ++ (some_ :: ([] : List (List Str)))) (((commits).length : Int) + (1 : Int)) (whole))) Mq (ev_call C_judge_contents (hr.mono (by decide)) (ea_cons (ev_catR (ev_var (i := 2) rfl h_commits) (ev_lstR (some_ :: ([] : List (List Str))) (ea_consR (f := (eR true D.str)) (x := some_) (ev_bty T.tuple cl_tupleR (ea_cons (ev_var (i := 6) rfl h_some) ea_nil) rfl) (ea_nilR (f := (eR true D.str)))) (by simp [rg_len, enumT_len]; try omega)) (by first | (simp; omega) | (have := hK.sz; have := hKt.sz; omega) | (split <;> simp))) (ea_cons (ev_add (ev_blt T.len cl_lenR (ea_cons (ev_var (i := 2) rfl h_commits) ea_nil) rfl) ev_int) (ea_cons (ev_var (i := 8) rfl h_whole) ea_nil))) (⟨(commits ++ (some_ :: ([] : List (List Str)))), (((commits).length : Int) + (1 : Int)), (whole), (by first | assumption | exact hPr _ (by assumption)), rfl, rfl⟩)) (hr.mono (by decide))))))))))) (by exact nv150 hX hF) ?_
      change BlkS _ _ [some v_script, some (.ref dl), some v_commits, some v_pages, some (.int many), some (.int answered), some v_some, o_page, some v_whole, some v_found, some v_fits, none, o_less, some v_late, o_wider, some v_rest, some v_other, some v_both, o_low, o_high, some v_more, some v_longer, none, none, none, none, none, none, none, none, none] _ _ _
      generalize (some v_late : Option V) = o_late
      refine bl_forK (xs := (rg answered (((commits).length : Int) + (1 : Int)))) (f := D.int) (ei_range2 T.range (ea_cons (ev_var (i := 5) rfl (.int _)) (ea_cons (ev_add (ev_blt T.len cl_lenR (ea_cons (ev_var (i := 2) rfl h_commits) ea_nil) rfl) ev_int) ea_nil)) (by omega)) (fun (sv62 : Unit) (x63 : Int) => ()) () (fun i_ (s_ : Unit) σ_ F_ W_ => ∃ (o_late : Option V) (o_least : Option V), σ_ = [some v_script, some (.ref dl), some v_commits, some v_pages, some (.int many), some (.int answered), some v_some, o_page, some v_whole, some v_found, some v_fits, none, o_less, o_late, o_wider, some v_rest, some v_other, some v_both, o_low, o_high, some v_more, some v_longer, o_least, none, none, none, none, none, none, none, none] ∧ (WK W' dl sa (k2 + 1)) = W_) (fun F_ e_ => ?_) (fun i67 x63 hi68 hx65 sv62 σ_ F_ W_ e_ J_ v_ F2_ e2_ r66 => ?_) (fun σ_ F_ W_ e_ J_ => ?_)
      · replace h_script := h_script.mono e_
        replace h_sa := h_sa.mono e_
        replace h_commits := h_commits.mono e_
        replace h_pages := h_pages.mono e_
        replace h_some := h_some.mono e_
        replace h_whole := h_whole.mono e_
        replace h_found := h_found.mono e_
        replace h_fits := h_fits.mono e_
        replace h_rest := h_rest.mono e_
        replace h_other := h_other.mono e_
        replace h_both := h_both.mono e_
        replace h_more := h_more.mono e_
        replace h_longer := h_longer.mono e_
        exact ⟨_, _, rfl, rfl⟩
      · replace h_script := h_script.mono e_
        replace h_sa := h_sa.mono e_
        replace h_commits := h_commits.mono e_
        replace h_pages := h_pages.mono e_
        replace h_some := h_some.mono e_
        replace h_whole := h_whole.mono e_
        replace h_found := h_found.mono e_
        replace h_fits := h_fits.mono e_
        replace h_rest := h_rest.mono e_
        replace h_other := h_other.mono e_
        replace h_both := h_both.mono e_
        replace h_more := h_more.mono e_
        replace h_longer := h_longer.mono e_
        obtain ⟨o_late, o_least, rfl, rfl⟩ := J_
        replace h_script := h_script.mono e2_
        replace h_sa := h_sa.mono e2_
        replace h_commits := h_commits.mono e2_
        replace h_pages := h_pages.mono e2_
        replace h_some := h_some.mono e2_
        replace h_whole := h_whole.mono e2_
        replace h_found := h_found.mono e2_
        replace h_fits := h_fits.mono e2_
        replace h_rest := h_rest.mono e2_
        replace h_other := h_other.mono e2_
        replace h_both := h_both.mono e2_
        replace h_more := h_more.mono e2_
        replace h_longer := h_longer.mono e2_
        have hx65m := rg_mem.mp hx65
        cases r66
        refine tg_name (i := 22) ?_
        change BlkS _ _ [some v_script, some (.ref dl), some v_commits, some v_pages, some (.int many), some (.int answered), some v_some, o_page, some v_whole, some v_found, some v_fits, none, o_less, o_late, o_wider, some v_rest, some v_other, some v_both, o_low, o_high, some v_more, some v_longer, some (.int x63), none, none, none, none, none, none, none, none] _ _ _
        have hKe : Ck commits x63 whole := hX.cke (by assumption)
        refine bl_asg (i := 13) (ev_call C_judge_contents (hr.mono (by decide)) (ea_cons (ev_var (i := 2) rfl h_commits) (ea_cons (ev_var (i := 22) rfl (.int _)) (ea_cons (ev_var (i := 8) rfl h_whole) ea_nil))) (⟨(commits), (x63), (whole), (by first | assumption | exact hPr _ (by assumption)), rfl, rfl⟩)) (fun v_late F_ e69 h_late => ?_)
        replace h_script := h_script.mono e69
        replace h_sa := h_sa.mono e69
        replace h_commits := h_commits.mono e69
        replace h_pages := h_pages.mono e69
        replace h_some := h_some.mono e69
        replace h_whole := h_whole.mono e69
        replace h_found := h_found.mono e69
        replace h_fits := h_fits.mono e69
        replace h_rest := h_rest.mono e69
        replace h_other := h_other.mono e69
        replace h_both := h_both.mono e69
        replace h_more := h_more.mono e69
        replace h_longer := h_longer.mono e69
        change BlkS _ _ [some v_script, some (.ref dl), some v_commits, some v_pages, some (.int many), some (.int answered), some v_some, o_page, some v_whole, some v_found, some v_fits, none, o_less, some v_late, o_wider, some v_rest, some v_other, some v_both, o_low, o_high, some v_more, some v_longer, some (.int x63), none, none, none, none, none, none, none, none] _ _ _
        have hE := least_of (l := x63) hX hF (by assumption)
        generalize hd_le : (m_judge_contents (commits) (x63) (whole)) = le_ at h_late hE
        refine bl_never (q := ((!decide ((le_).isPre = (decide (x63 ≤ ((Vd.pre flo fhi)).low.2)))) || (((le_).isPre && (!decide (le_ = (Vd.pre (if ((Vd.pre flo fhi)).low.1 > x63 then ((Vd.pre flo fhi)).low.1 else x63) ((Vd.pre flo fhi)).low.2)))) || ((!(le_).isPre) && ((!((le_).two.2).isNone) || (!(showsV le_ commits x63 whole))))))) (et_w (ew_or (et_cm (ev_boolVd (v := le_) Mq T.bool (ev_var (i := 13) rfl h_late) (hr.mono (by decide))) (ev_cm (ev_var (i := 22) rfl (.int _)) (ev_fld (ev_is (ev_var (i := 9) rfl h_found) (eVd_pre (by first | rfl | assumption))) Y.p.cls Y.greatest rfl) cm_le) (cm_ne (f := D.bl) (x := (le_).isPre) (y := (decide (x63 ≤ ((Vd.pre flo fhi)).low.2))) hr lw_bl)) (fun hb70 => (ew_or (et_w (ew_and (et_Vd (v := le_) Mq (ev_var (i := 13) rfl h_late) (hr.mono (by decide))) (fun hb71 => (ew_and1 (et_cm (ev_var (i := 13) rfl h_late) (ev_is (d1 := eVd CP CA (Vd.pre (if ((Vd.pre flo fhi)).low.1 > x63 then ((Vd.pre flo fhi)).low.1 else x63) ((Vd.pre flo fhi)).low.2)) (ev_make InP (hr.mono (by decide)) (ea_cons (ev_blt T.max cl_max2 (ea_cons (ev_var (i := 22) rfl (.int _)) (ea_cons (ev_fld (ev_is (ev_var (i := 9) rfl h_found) (eVd_pre (by first | rfl | assumption))) Y.p.cls Y.least rfl) ea_nil)) rfl) (ea_cons (ev_fld (ev_is (ev_var (i := 9) rfl h_found) (eVd_pre (by first | rfl | assumption))) Y.p.cls Y.greatest rfl) ea_nil)) ⟨(if ((Vd.pre flo fhi)).low.1 > x63 then ((Vd.pre flo fhi)).low.1 else x63), ((Vd.pre flo fhi)).low.2, rfl, rfl⟩) rfl) (cm_neVd (u := le_) (v := (Vd.pre (if ((Vd.pre flo fhi)).low.1 > x63 then ((Vd.pre flo fhi)).low.1 else x63) ((Vd.pre flo fhi)).low.2)) Y Mq (hr.mono (by decide)))))))) (fun hb72 => (ew_or1 (et_w (ew_and (et_not (et_Vd (v := le_) Mq (ev_var (i := 13) rfl h_late) (hr.mono (by decide)))) (fun hb73 => (ew_and1 (et_w (ew_or (et_cm (ev_fld (ev_is (ev_var (i := 13) rfl h_late) (eVd_two (by first | assumption | exact hB.2.1 (of_decide_eq_true (by assumption)) | (first | rfl | assumption | (have q_ := hb73; simpa using q_) | (have q_ := hb72; simpa using q_) | (have q_ := hb70; simpa using q_))))) Y.a.cls Y.other rfl) ev_non (cm_isnotO (f := D.str) (x := (le_).two.2) (fun _ => rfl))) (fun hb74 => (ew_or1 (et_not (et_val (ev_showsV (v := le_) Y Ms (ev_var (i := 13) rfl h_late) (hr.mono (by decide)) (ev_var (i := 2) rfl h_commits) (ev_var (i := 22) rfl (.int _)) (ev_var (i := 8) rfl h_whole) (by exact hE.2.2.2.2)))))))))))))))))) (by exact nv154 hE) ?_
        exact bl_nil ⟨_, _, rfl, rfl⟩
      · replace h_script := h_script.mono e_
        replace h_sa := h_sa.mono e_
        replace h_commits := h_commits.mono e_
        replace h_pages := h_pages.mono e_
        replace h_some := h_some.mono e_
        replace h_whole := h_whole.mono e_
        replace h_found := h_found.mono e_
        replace h_fits := h_fits.mono e_
        replace h_rest := h_rest.mono e_
        replace h_other := h_other.mono e_
        replace h_both := h_both.mono e_
        replace h_more := h_more.mono e_
        replace h_longer := h_longer.mono e_
        obtain ⟨o_late, o_least, rfl, rfl⟩ := J_
        change BlkS _ _ [some v_script, some (.ref dl), some v_commits, some v_pages, some (.int many), some (.int answered), some v_some, o_page, some v_whole, some v_found, some v_fits, none, o_less, o_late, o_wider, some v_rest, some v_other, some v_both, o_low, o_high, some v_more, some v_longer, o_least, none, none, none, none, none, none, none, none] _ _ _
        refine bl_asg (i := 23) (ev_dictZip (g := D.str) keS T.dict T.zip (ev_var (i := 3) rfl h_pages) (ev_lstR (("q" : Str) :: (("p" : Str) :: (("zz" : Str) :: (("m1" : Str) :: ([] : List Str))))) (ea_consR (f := D.str) (x := ("q" : Str)) ev_str (ea_consR (f := D.str) (x := ("p" : Str)) ev_str (ea_consR (f := D.str) (x := ("zz" : Str)) ev_str (ea_consR (f := D.str) (x := ("m1" : Str)) ev_str (ea_nilR (f := D.str)))))) (by simp [rg_len, enumT_len]; try omega)) (by first | rfl | (simp; done)) (by first | omega | (simp; done))) (fun v_names F_ e76 h_names => ?_)
        replace h_script := h_script.mono e76
        replace h_sa := h_sa.mono e76
        replace h_commits := h_commits.mono e76
        replace h_pages := h_pages.mono e76
        replace h_some := h_some.mono e76
        replace h_whole := h_whole.mono e76
        replace h_found := h_found.mono e76
        replace h_fits := h_fits.mono e76
        replace h_rest := h_rest.mono e76
        replace h_other := h_other.mono e76
        replace h_both := h_both.mono e76
        replace h_more := h_more.mono e76
        replace h_longer := h_longer.mono e76
        change BlkS _ _ [some v_script, some (.ref dl), some v_commits, some v_pages, some (.int many), some (.int answered), some v_some, o_page, some v_whole, some v_found, some v_fits, none, o_less, o_late, o_wider, some v_rest, some v_other, some v_both, o_low, o_high, some v_more, some v_longer, o_least, some v_names, none, none, none, none, none, none, none] _ _ _
        generalize hd_names : (tOf (((("a" : Str) :: (("b" : Str) :: (("c" : Str) :: (("d" : Str) :: ([] : List Str)))))).zip (("q" : Str) :: (("p" : Str) :: (("zz" : Str) :: (("m1" : Str) :: ([] : List Str))))))) = names at h_names
        have hN := names_of hd_names
        have hKn := hX.ckn hN
        refine bl_asg (i := 24) (ev_call C_judge_contents (hr.mono (by decide)) (ea_cons (ev_ofLc (lc_M (own := [("row", 25)]) (f := (eR true D.str)) (g := (eR true D.str)) (fun x77 => (sortS ((x77).map fun x80 => ((tGet names x80).getD ("" : Str))))) (ei_row (ev_var (i := 2) rfl h_commits)) (by first | (first | exact rep_len h_commits | assumption | omega | (simp only [List.length_map, enumT_len, rg_len]; omega) | (simp; done) | (simp; omega)) | exact pairs_len hsl | (have := s4_len (hX.cm _ (by assumption)); omega)) (fun x77 hx78 v_ F1_ e_ r79 => by
      replace h_script := h_script.mono e_
      replace h_sa := h_sa.mono e_
      replace h_commits := h_commits.mono e_
      replace h_pages := h_pages.mono e_
      replace h_some := h_some.mono e_
      replace h_whole := h_whole.mono e_
      replace h_found := h_found.mono e_
      replace h_fits := h_fits.mono e_
      replace h_rest := h_rest.mono e_
      replace h_other := h_other.mono e_
      replace h_both := h_both.mono e_
      replace h_more := h_more.mono e_
      replace h_longer := h_longer.mono e_
      replace h_names := h_names.mono e_
      intro s_ H0_ C_ cl_ fp_
      refine tg_name (i := 25) ?_
      refine ⟨((wipe_set (by decide)).trans (wipe_wipe)), fun s_ H0_ C_ cl_ fp_ => ?_, fun ht_ s_ H0_ C_ cl_ fp_ => ?_⟩
      · exact ets_nil
      · exact (ev_bty T.tuple cl_tupleR (ea_cons (ev_blt T.sorted (cl_sortedS (by rw [List.length_map]; have := s4_len (hX.cm _ (by assumption)); omega) (by exact ren_nd hN (hX.cm _ (by assumption)))) (ea_cons (ev_ofLc (lc_M (own := [("page", 7)]) (f := D.str) (g := D.str) (fun x80 => ((tGet names x80).getD ("" : Str))) (ei_row (ev_var (i := 25) rfl r79)) (by first | (first | exact rep_len r79 | assumption | omega | (simp only [List.length_map, enumT_len, rg_len]; omega) | (simp; done) | (simp; omega)) | exact pairs_len hsl | (have := s4_len (hX.cm _ (by assumption)); omega)) (fun x80 hx81 v_ F1_ e_ r82 => by
      replace h_script := h_script.mono e_
      replace h_sa := h_sa.mono e_
      replace h_commits := h_commits.mono e_
      replace h_pages := h_pages.mono e_
      replace h_some := h_some.mono e_
      replace h_whole := h_whole.mono e_
      replace h_found := h_found.mono e_
      replace h_fits := h_fits.mono e_
      replace h_rest := h_rest.mono e_
      replace h_other := h_other.mono e_
      replace h_both := h_both.mono e_
      replace h_more := h_more.mono e_
      replace h_longer := h_longer.mono e_
      replace h_names := h_names.mono e_
      replace r79 := r79.mono e_
      intro s_ H0_ C_ cl_ fp_
      cases r82
      refine tg_name (i := 7) ?_
      refine ⟨((wipe_set (by decide)).trans (wipe_wipe)), fun s_ H0_ C_ cl_ fp_ => ?_, fun ht_ s_ H0_ C_ cl_ fp_ => ?_⟩
      · exact ets_nil
      · exact (ev_tsub keS hr (ev_var (i := 23) rfl h_names) (ev_var (i := 7) rfl (.str _)) (oGet (by first | exact hN.1 _ (hX.cm _ (by assumption)) (by assumption) | exact hN.2.1 _ (hX.sb.subset (by assumption)) | exact hX.wsome _ (by assumption) | exact hP.2.1 _ (by assumption)))))) (ok := by exact blkOk_by (by kernel_rfl))) ea_nil) rfl) ea_nil) rfl))) (ok := blkOk_by (N := N25) (sc := defScope s25) (by decide +kernel))) (ea_cons (ev_var (i := 5) rfl (.int _)) (ea_cons (ev_bty T.dict (cl_dict keS) (ea_cons (ev_ofLc (lc_M (own := [("page", 7)]) (f := D.str) (g := (eP D.str D.int)) (fun x83 => (((tGet names x83).getD ("" : Str)), ((tGet whole x83).getD 0))) (ei_row (ev_var (i := 6) rfl h_some)) (by first | (first | exact rep_len h_some | assumption | omega | (simp only [List.length_map, enumT_len, rg_len]; omega) | (simp; done) | (simp; omega)) | exact pairs_len hsl | (have := s4_len (hX.cm _ (by assumption)); omega)) (fun x83 hx84 v_ F1_ e_ r85 => by
      replace h_script := h_script.mono e_
      replace h_sa := h_sa.mono e_
      replace h_commits := h_commits.mono e_
      replace h_pages := h_pages.mono e_
      replace h_some := h_some.mono e_
      replace h_whole := h_whole.mono e_
      replace h_found := h_found.mono e_
      replace h_fits := h_fits.mono e_
      replace h_rest := h_rest.mono e_
      replace h_other := h_other.mono e_
      replace h_both := h_both.mono e_
      replace h_more := h_more.mono e_
      replace h_longer := h_longer.mono e_
      replace h_names := h_names.mono e_
      intro s_ H0_ C_ cl_ fp_
      cases r85
      refine tg_name (i := 7) ?_
      refine ⟨((wipe_set (by decide)).trans (wipe_wipe)), fun s_ H0_ C_ cl_ fp_ => ?_, fun ht_ s_ H0_ C_ cl_ fp_ => ?_⟩
      · exact ets_nil
      · exact (ev_is (d1 := (eP D.str D.int) (((tGet names x83).getD ("" : Str)), ((tGet whole x83).getD 0))) (ev_tup (ea_cons (ev_tsub keS hr (ev_var (i := 23) rfl h_names) (ev_var (i := 7) rfl (.str _)) (oGet (by first | exact hN.1 _ (hX.cm _ (by assumption)) (by assumption) | exact hN.2.1 _ (hX.sb.subset (by assumption)) | exact hX.wsome _ (by assumption) | exact hP.2.1 _ (by assumption)))) (ea_cons (ev_tsub keS hr (ev_var (i := 8) rfl h_whole) (ev_var (i := 7) rfl (.str _)) (oGet (by first | exact hN.1 _ (hX.cm _ (by assumption)) (by assumption) | exact hN.2.1 _ (hX.sb.subset (by assumption)) | exact hX.wsome _ (by assumption) | exact hP.2.1 _ (by assumption)))) ea_nil)) (by simp)) rfl))) (ok := blkOk_by (N := N25) (sc := defScope s25) (by decide +kernel))) ea_nil) rfl) ea_nil))) (⟨((commits).map fun x77 => (sortS ((x77).map fun x80 => ((tGet names x80).getD ("" : Str))))), (answered), (tOf ((some_).map fun x83 => (((tGet names x83).getD ("" : Str)), ((tGet whole x83).getD 0)))), (by first | assumption | exact hPr _ (by assumption)), rfl, rfl⟩)) (fun v_turned F_ e86 h_turned => ?_)
        replace h_script := h_script.mono e86
        replace h_sa := h_sa.mono e86
        replace h_commits := h_commits.mono e86
        replace h_pages := h_pages.mono e86
        replace h_some := h_some.mono e86
        replace h_whole := h_whole.mono e86
        replace h_found := h_found.mono e86
        replace h_fits := h_fits.mono e86
        replace h_rest := h_rest.mono e86
        replace h_other := h_other.mono e86
        replace h_both := h_both.mono e86
        replace h_more := h_more.mono e86
        replace h_longer := h_longer.mono e86
        replace h_names := h_names.mono e86
        change BlkS _ _ [some v_script, some (.ref dl), some v_commits, some v_pages, some (.int many), some (.int answered), some v_some, o_page, some v_whole, some v_found, some v_fits, none, o_less, o_late, o_wider, some v_rest, some v_other, some v_both, o_low, o_high, some v_more, some v_longer, o_least, some v_names, some v_turned, none, none, none, none, none, none] _ _ _
        have hTu : (m_judge_contents ((commits).map fun x77 => (sortS ((x77).map fun x80 => ((tGet names x80).getD ("" : Str))))) (answered) (tOf ((some_).map fun x83 => (((tGet names x83).getD ("" : Str)), ((tGet whole x83).getD 0))))) = Vd.pre flo fhi := turned_of hX hF hN
        rw [hTu] at h_turned
        refine bl_never (q := (!decide ((Vd.pre flo fhi) = (Vd.pre flo fhi)))) (et_cm (ev_var (i := 24) rfl h_turned) (ev_var (i := 9) rfl h_found) (cm_neVd (u := (Vd.pre flo fhi)) (v := (Vd.pre flo fhi)) Y Mq (hr.mono (by decide)))) (by rw [decide_eq_true rfl]; rfl) ?_
        change BlkS _ _ [some v_script, some (.ref dl), some v_commits, some v_pages, some (.int many), some (.int answered), some v_some, o_page, some v_whole, some v_found, some v_fits, none, o_less, o_late, o_wider, some v_rest, some v_other, some v_both, o_low, o_high, some v_more, some v_longer, o_least, some v_names, some v_turned, none, none, none, none, none, none] _ _ _
        refine bl_asg (i := 26) (ev_bty T.dict (cl_dict keS) (ea_cons (ev_ofLc (lc_KM (own := [("page", 7)]) (f := D.str) (g := (eP D.str D.int)) (WK W' dl sa) (k0 := (k2 + 1)) (fun (x88 : Str) (k_ : Nat) => (((x88, (tk ns k_ (((commits).length : Int) + (1 : Int)))) : (Str × Int)), (k_ + 1))) (ei_row (ev_var (i := 6) rfl h_some)) (by first | (first | assumption | omega | (simp only [List.length_map, enumT_len, rg_len]; omega)) | exact pairs_len hsl | (have := s4_len (hX.cm _ (by assumption)); omega)) (fun x88 hx89 k_ v_ F1_ e_ r90 => by
      replace h_script := h_script.mono e_
      replace h_sa := h_sa.mono e_
      replace h_commits := h_commits.mono e_
      replace h_pages := h_pages.mono e_
      replace h_some := h_some.mono e_
      replace h_whole := h_whole.mono e_
      replace h_found := h_found.mono e_
      replace h_fits := h_fits.mono e_
      replace h_rest := h_rest.mono e_
      replace h_other := h_other.mono e_
      replace h_both := h_both.mono e_
      replace h_more := h_more.mono e_
      replace h_longer := h_longer.mono e_
      replace h_names := h_names.mono e_
      replace h_turned := h_turned.mono e_
      intro s_ H0_ C_ cl_ fp_
      cases r90
      refine tg_name (i := 7) ?_
      refine ⟨((wipe_set (by decide)).trans (wipe_wipe)), fun s_ H0_ C_ cl_ fp_ => ?_, fun ht_ s_ H0_ C_ cl_ fp_ => ?_⟩
      · exact ets_nil
      · exact (ev_is (d1 := (eP D.str D.int) (x88, (tk ns k_ (((commits).length : Int) + (1 : Int))))) (ev_tup (ea_cons (ev_var (i := 7) rfl (.str _)) (ea_cons (ev_take C_take (hr.mono (by decide)) (ev_var (i := 1) rfl (.ow _)) (ev_add (ev_blt T.len cl_lenR (ea_cons (ev_var (i := 2) rfl h_commits) ea_nil) rfl) ev_int) (by first | decide | omega) hz_ h_sa) ea_nil)) (by simp)) rfl))) (ok := blkOk_by (N := N25) (sc := defScope s25) (by decide +kernel))) ea_nil) rfl) (fun v_wild F_ e91 h_wild => ?_)
        replace h_script := h_script.mono e91
        replace h_sa := h_sa.mono e91
        replace h_commits := h_commits.mono e91
        replace h_pages := h_pages.mono e91
        replace h_some := h_some.mono e91
        replace h_whole := h_whole.mono e91
        replace h_found := h_found.mono e91
        replace h_fits := h_fits.mono e91
        replace h_rest := h_rest.mono e91
        replace h_other := h_other.mono e91
        replace h_both := h_both.mono e91
        replace h_more := h_more.mono e91
        replace h_longer := h_longer.mono e91
        replace h_names := h_names.mono e91
        replace h_turned := h_turned.mono e91
        change BlkS _ _ [some v_script, some (.ref dl), some v_commits, some v_pages, some (.int many), some (.int answered), some v_some, o_page, some v_whole, some v_found, some v_fits, none, o_less, o_late, o_wider, some v_rest, some v_other, some v_both, o_low, o_high, some v_more, some v_longer, o_least, some v_names, some v_turned, none, some v_wild, none, none, none, none] _ _ _
        have hwf := wl_facts ns commits some_ (k2 + 1)
        generalize hd_w : (lcK (fun (_ : Str) (k_ : Nat) => (true, k_)) (fun (x88 : Str) (k_ : Nat) => (((x88, (tk ns k_ (((commits).length : Int) + (1 : Int)))) : (Str × Int)), (k_ + 1))) some_ (k2 + 1)) = wl0 at hwf h_wild ⊢
        obtain ⟨wild, k3⟩ := wl0
        dsimp only at hwf h_wild ⊢
        rw [wl_of hX hwf] at h_wild
        have hKw := hX.ckwild hwf
        refine bl_asg (i := 27) (ev_call C_judge_contents (hr.mono (by decide)) (ea_cons (ev_var (i := 2) rfl h_commits) (ea_cons (ev_var (i := 5) rfl (.int _)) (ea_cons (ev_var (i := 26) rfl h_wild) ea_nil))) (⟨(commits), (answered), (wild), (by first | assumption | exact hPr _ (by assumption)), rfl, rfl⟩)) (fun v_told F_ e92 h_told => ?_)
        replace h_script := h_script.mono e92
        replace h_sa := h_sa.mono e92
        replace h_commits := h_commits.mono e92
        replace h_pages := h_pages.mono e92
        replace h_some := h_some.mono e92
        replace h_whole := h_whole.mono e92
        replace h_found := h_found.mono e92
        replace h_fits := h_fits.mono e92
        replace h_rest := h_rest.mono e92
        replace h_other := h_other.mono e92
        replace h_both := h_both.mono e92
        replace h_more := h_more.mono e92
        replace h_longer := h_longer.mono e92
        replace h_names := h_names.mono e92
        replace h_turned := h_turned.mono e92
        replace h_wild := h_wild.mono e92
        change BlkS _ _ [some v_script, some (.ref dl), some v_commits, some v_pages, some (.int many), some (.int answered), some v_some, o_page, some v_whole, some v_found, some v_fits, none, o_less, o_late, o_wider, some v_rest, some v_other, some v_both, o_low, o_high, some v_more, some v_longer, o_least, some v_names, some v_turned, none, some v_wild, some v_told, none, none, none] _ _ _
        generalize hd_told : (m_judge_contents (commits) (answered) (wild)) = told at h_told
        have hJ := told_js hKw hd_told
        refine bl_asgLc (i := 28) (lc_F (own := [("number", 11)]) (f := D.int) (g := D.int) (fun x93 => (tEq (m__law_contents (commits) (x93) (some_)) wild)) (fun x93 => x93) (ei_range2 T.range (ea_cons (ev_var (i := 5) rfl (.int _)) (ea_cons (ev_add (ev_blt T.len cl_lenR (ea_cons (ev_var (i := 2) rfl h_commits) ea_nil) rfl) ev_int) ea_nil)) (by omega)) (by first | (first | assumption | omega | (simp only [List.length_map, enumT_len, rg_len]; omega) | (simp; done) | (simp; omega)) | exact pairs_len hsl | (have := s4_len (hX.cm _ (by assumption)); omega)) (fun x93 hx94 v_ F1_ e_ r95 => by
      replace h_script := h_script.mono e_
      replace h_sa := h_sa.mono e_
      replace h_commits := h_commits.mono e_
      replace h_pages := h_pages.mono e_
      replace h_some := h_some.mono e_
      replace h_whole := h_whole.mono e_
      replace h_found := h_found.mono e_
      replace h_fits := h_fits.mono e_
      replace h_rest := h_rest.mono e_
      replace h_other := h_other.mono e_
      replace h_both := h_both.mono e_
      replace h_more := h_more.mono e_
      replace h_longer := h_longer.mono e_
      replace h_names := h_names.mono e_
      replace h_turned := h_turned.mono e_
      replace h_wild := h_wild.mono e_
      replace h_told := h_told.mono e_
      have hx94m := rg_mem.mp hx94
      intro s_ H0_ C_ cl_ fp_
      cases r95
      refine tg_name (i := 11) ?_
      refine ⟨((wipe_set (by decide)).trans (wipe_wipe)), fun s_ H0_ C_ cl_ fp_ => ?_, fun ht_ s_ H0_ C_ cl_ fp_ => ?_⟩
      · exact ets_one (et_cm (ev_call C__law_contents (hr.mono (by decide)) (ea_cons (ev_var (i := 2) rfl h_commits) (ea_cons (ev_var (i := 11) rfl (.int _)) (ea_cons (ev_var (i := 6) rfl h_some) ea_nil))) (⟨(commits), (x93), (some_), (by first | omega | (have := tk_in ns k2 (many := (commits.length : Int) + 1) (by omega); omega) | exact ⟨by omega, by omega, by omega, by rw [List.length_map]; exact Nat.le_trans (List.length_filter_le _ _) (by omega)⟩), rfl, rfl⟩)) (ev_var (i := 26) rfl h_wild) (cm_eqT (g := D.int) (t1 := (m__law_contents (commits) (x93) (some_))) (t2 := wild) hr keS eqF_int))
      · exact (ev_var (i := 11) rfl (.int _)))) (ok := blkOk_by (N := N25) (sc := defScope s25) (by decide +kernel)) (fun v_good F_ e96 h_good => ?_)
        have hl_good := rep_len h_good
        replace h_script := h_script.mono e96
        replace h_sa := h_sa.mono e96
        replace h_commits := h_commits.mono e96
        replace h_pages := h_pages.mono e96
        replace h_some := h_some.mono e96
        replace h_whole := h_whole.mono e96
        replace h_found := h_found.mono e96
        replace h_fits := h_fits.mono e96
        replace h_rest := h_rest.mono e96
        replace h_other := h_other.mono e96
        replace h_both := h_both.mono e96
        replace h_more := h_more.mono e96
        replace h_longer := h_longer.mono e96
        replace h_names := h_names.mono e96
        replace h_turned := h_turned.mono e96
        replace h_wild := h_wild.mono e96
        replace h_told := h_told.mono e96
        change BlkS _ _ [some v_script, some (.ref dl), some v_commits, some v_pages, some (.int many), some (.int answered), some v_some, o_page, some v_whole, some v_found, some v_fits, none, o_less, o_late, o_wider, some v_rest, some v_other, some v_both, o_low, o_high, some v_more, some v_longer, o_least, some v_names, some v_turned, none, some v_wild, some v_told, some v_good, none, none] _ _ _
        have hl_good := rep_len h_good
        generalize hd_good : ((((rg answered (((commits).length : Int) + (1 : Int)))).filter fun x93 => (tEq (m__law_contents (commits) (x93) (some_)) wild)).map fun x93 => x93) = good at h_good hl_good
        have hG := good_of hX hwf hKw hd_told hd_good
        have hSh := sh_ok hKw hd_told
        refine bl_never (q := ((!decide ((told).isPre = (!decide (good = ([] : List Int))))) || (((told).isPre && (!decide (told = (Vd.pre (ixI 0 good (0 : Int)) (ixI 0 good (-(1 : Int))))))) || (!(showsV told commits answered wild))))) (et_w (ew_or (et_cm (ev_boolVd (v := told) Mq T.bool (ev_var (i := 27) rfl h_told) (hr.mono (by decide))) (ev_cm (ev_var (i := 28) rfl h_good) (ev_lstR ([] : List Int) (ea_nilR (f := D.int)) (by simp [rg_len, enumT_len]; try omega)) (cm_ne (f := (eR false D.int)) (x := good) (y := ([] : List Int)) hr (Lw.row lw_int))) (cm_ne (f := D.bl) (x := (told).isPre) (y := (!decide (good = ([] : List Int)))) hr lw_bl)) (fun hb97 => (ew_or (et_w (ew_and (et_Vd (v := told) Mq (ev_var (i := 27) rfl h_told) (hr.mono (by decide))) (fun hb98 => (ew_and1 (et_cm (ev_var (i := 27) rfl h_told) (ev_is (d1 := eVd CP CA (Vd.pre (ixI 0 good (0 : Int)) (ixI 0 good (-(1 : Int))))) (ev_make InP (hr.mono (by decide)) (ea_cons (ev_ix (ev_var (i := 28) rfl h_good) ev_int (ixI_at (d := 0) (by have := hG.2.1 (by assumption); omega))) (ea_cons (ev_ix (ev_var (i := 28) rfl h_good) (ev_neg ev_int) (ixI_at (d := 0) (by have := hG.2.1 (by assumption); omega))) ea_nil)) ⟨(ixI 0 good (0 : Int)), (ixI 0 good (-(1 : Int))), rfl, rfl⟩) rfl) (cm_neVd (u := told) (v := (Vd.pre (ixI 0 good (0 : Int)) (ixI 0 good (-(1 : Int))))) Y Mq (hr.mono (by decide)))))))) (fun hb99 => (ew_or1 (et_not (et_val (ev_showsV (v := told) Y Ms (ev_var (i := 27) rfl h_told) (hr.mono (by decide)) (ev_var (i := 2) rfl h_commits) (ev_var (i := 5) rfl (.int _)) (ev_var (i := 26) rfl h_wild) (by exact hSh)))))))))) (by exact nv163 hG) ?_
        change BlkS _ _ [some v_script, some (.ref dl), some v_commits, some v_pages, some (.int many), some (.int answered), some v_some, o_page, some v_whole, some v_found, some v_fits, none, o_less, o_late, o_wider, some v_rest, some v_other, some v_both, o_low, o_high, some v_more, some v_longer, o_least, some v_names, some v_turned, none, some v_wild, some v_told, some v_good, none, none] _ _ _
        refine bl_when (q := (!(told).isPre)) (et_not (et_Vd (v := told) Mq (ev_var (i := 27) rfl h_told) (hr.mono (by decide)))) (fun hq101 => ?_) (fun hq101 => ?_)
        · change BlkS _ _ [some v_script, some (.ref dl), some v_commits, some v_pages, some (.int many), some (.int answered), some v_some, o_page, some v_whole, some v_found, some v_fits, none, o_less, o_late, o_wider, some v_rest, some v_other, some v_both, o_low, o_high, some v_more, some v_longer, o_least, some v_names, some v_turned, none, some v_wild, some v_told, some v_good, none, none] _ _ _
          refine bl_asg (i := 29) (ev_catR (ev_lstR ((told).two.1 :: ([] : List Str)) (ea_consR (f := D.str) (x := (told).two.1) (ev_fld (ev_is (ev_var (i := 27) rfl h_told) (eVd_two (by first | assumption | exact hB.2.1 (of_decide_eq_true (by assumption)) | (first | rfl | assumption | (have q_ := hq101; simpa using q_))))) Y.a.cls Y.one rfl) (ea_nilR (f := D.str))) (by simp [rg_len, enumT_len]; try omega)) (ev_if (f := (eR false D.str)) (x := ((((told).two.2).getD ("" : Str)) :: ([] : List Str))) (y := ([] : List Str)) (et_cm (ev_fld (ev_is (ev_var (i := 27) rfl h_told) (eVd_two (by first | assumption | exact hB.2.1 (of_decide_eq_true (by assumption)) | (first | rfl | assumption | (have q_ := hq101; simpa using q_))))) Y.a.cls Y.other rfl) ev_non (cm_isnotO (f := D.str) (x := (told).two.2) (fun _ => rfl))) (fun hi104 => (ev_lstR ((((told).two.2).getD ("" : Str)) :: ([] : List Str)) (ea_consR (f := D.str) (x := (((told).two.2).getD ("" : Str))) (ev_is (d1 := D.str (((told).two.2).getD ("" : Str))) (ev_fld (ev_is (ev_var (i := 27) rfl h_told) (eVd_two (by first | assumption | exact hB.2.1 (of_decide_eq_true (by assumption)) | (first | rfl | assumption | (have q_ := hq101; simpa using q_))))) Y.a.cls Y.other rfl) (eO_get (by first | exact hB.2.2.1 (of_decide_eq_true (by assumption)) | (first | (have q_ := hi104; revert q_; cases hO_ : (told).two.2 <;> simp) | assumption)))) (ea_nilR (f := D.str))) (by simp))) (fun hi105 => (ev_lstR ([] : List Str) (ea_nilR (f := D.str)) (by simp [rg_len, enumT_len]; try omega)))) (by first | (simp; omega) | (have := hK.sz; have := hKt.sz; omega) | (split <;> simp))) (fun v_pair F_ e106 h_pair => ?_)
          have hl_pair := rep_len h_pair
          replace h_script := h_script.mono e106
          replace h_sa := h_sa.mono e106
          replace h_commits := h_commits.mono e106
          replace h_pages := h_pages.mono e106
          replace h_some := h_some.mono e106
          replace h_whole := h_whole.mono e106
          replace h_found := h_found.mono e106
          replace h_fits := h_fits.mono e106
          replace h_rest := h_rest.mono e106
          replace h_other := h_other.mono e106
          replace h_both := h_both.mono e106
          replace h_more := h_more.mono e106
          replace h_longer := h_longer.mono e106
          replace h_names := h_names.mono e106
          replace h_turned := h_turned.mono e106
          replace h_wild := h_wild.mono e106
          replace h_told := h_told.mono e106
          replace h_good := h_good.mono e106
          change BlkS _ _ [some v_script, some (.ref dl), some v_commits, some v_pages, some (.int many), some (.int answered), some v_some, o_page, some v_whole, some v_found, some v_fits, none, o_less, o_late, o_wider, some v_rest, some v_other, some v_both, o_low, o_high, some v_more, some v_longer, o_least, some v_names, some v_turned, none, some v_wild, some v_told, some v_good, some v_pair, none] _ _ _
          have hl_pair := rep_len h_pair
          generalize hd_pair : (((told).two.1 :: ([] : List Str)) ++ (if (!((told).two.2).isNone) = true then ((((told).two.2).getD ("" : Str)) :: ([] : List Str)) else ([] : List Str))) = pair at h_pair hl_pair
          have hP := pair_of hKw hJ hq101 hd_pair
          have hpl := hP.1
          refine bl_asg (i := 30) (ev_bty T.dict (cl_dict keS) (ea_cons (ev_ofLc (lc_M (own := [("page", 7)]) (f := D.str) (g := (eP D.str D.int)) (fun x107 => (x107, ((tGet wild x107).getD 0))) (ei_row (ev_var (i := 29) rfl h_pair)) (by first | (first | exact rep_len h_pair | assumption | omega | (simp only [List.length_map, enumT_len, rg_len]; omega) | (simp; done) | (simp; omega)) | exact pairs_len hsl | (have := s4_len (hX.cm _ (by assumption)); omega)) (fun x107 hx108 v_ F1_ e_ r109 => by
      replace h_script := h_script.mono e_
      replace h_sa := h_sa.mono e_
      replace h_commits := h_commits.mono e_
      replace h_pages := h_pages.mono e_
      replace h_some := h_some.mono e_
      replace h_whole := h_whole.mono e_
      replace h_found := h_found.mono e_
      replace h_fits := h_fits.mono e_
      replace h_rest := h_rest.mono e_
      replace h_other := h_other.mono e_
      replace h_both := h_both.mono e_
      replace h_more := h_more.mono e_
      replace h_longer := h_longer.mono e_
      replace h_names := h_names.mono e_
      replace h_turned := h_turned.mono e_
      replace h_wild := h_wild.mono e_
      replace h_told := h_told.mono e_
      replace h_good := h_good.mono e_
      replace h_pair := h_pair.mono e_
      intro s_ H0_ C_ cl_ fp_
      cases r109
      refine tg_name (i := 7) ?_
      refine ⟨((wipe_set (by decide)).trans (wipe_wipe)), fun s_ H0_ C_ cl_ fp_ => ?_, fun ht_ s_ H0_ C_ cl_ fp_ => ?_⟩
      · exact ets_nil
      · exact (ev_is (d1 := (eP D.str D.int) (x107, ((tGet wild x107).getD 0))) (ev_tup (ea_cons (ev_var (i := 7) rfl (.str _)) (ea_cons (ev_tsub keS hr (ev_var (i := 26) rfl h_wild) (ev_var (i := 7) rfl (.str _)) (oGet (by first | exact hN.1 _ (hX.cm _ (by assumption)) (by assumption) | exact hN.2.1 _ (hX.sb.subset (by assumption)) | exact hX.wsome _ (by assumption) | exact hP.2.1 _ (by assumption)))) ea_nil)) (by simp)) rfl))) (ok := blkOk_by (N := N25) (sc := defScope s25) (by decide +kernel))) ea_nil) rfl) (fun v_small F_ e110 h_small => ?_)
          replace h_script := h_script.mono e110
          replace h_sa := h_sa.mono e110
          replace h_commits := h_commits.mono e110
          replace h_pages := h_pages.mono e110
          replace h_some := h_some.mono e110
          replace h_whole := h_whole.mono e110
          replace h_found := h_found.mono e110
          replace h_fits := h_fits.mono e110
          replace h_rest := h_rest.mono e110
          replace h_other := h_other.mono e110
          replace h_both := h_both.mono e110
          replace h_more := h_more.mono e110
          replace h_longer := h_longer.mono e110
          replace h_names := h_names.mono e110
          replace h_turned := h_turned.mono e110
          replace h_wild := h_wild.mono e110
          replace h_told := h_told.mono e110
          replace h_good := h_good.mono e110
          replace h_pair := h_pair.mono e110
          change BlkS _ _ [some v_script, some (.ref dl), some v_commits, some v_pages, some (.int many), some (.int answered), some v_some, o_page, some v_whole, some v_found, some v_fits, none, o_less, o_late, o_wider, some v_rest, some v_other, some v_both, o_low, o_high, some v_more, some v_longer, o_least, some v_names, some v_turned, none, some v_wild, some v_told, some v_good, some v_pair, some v_small] _ _ _
          generalize hd_small : (tOf ((pair).map fun x107 => (x107, ((tGet wild x107).getD 0)))) = small at h_small
          obtain ⟨hKs, hKs2⟩ := hP.2.2 _ hd_small
          refine bl_never (q := ((m_judge_contents (commits) (answered) (small))).isPre) (et_Vd (v := (m_judge_contents (commits) (answered) (small))) Mq (ev_call C_judge_contents (hr.mono (by decide)) (ea_cons (ev_var (i := 2) rfl h_commits) (ea_cons (ev_var (i := 5) rfl (.int _)) (ea_cons (ev_var (i := 30) rfl h_small) ea_nil))) (⟨(commits), (answered), (small), (by first | assumption | exact hPr _ (by assumption)), rfl, rfl⟩)) (hr.mono (by decide))) (by exact hKs2) ?_
          refine bl_goes ?_
          change BlkS _ _ [some v_script, some (.ref dl), some v_commits, some v_pages, some (.int many), some (.int answered), some v_some, o_page, some v_whole, some v_found, some v_fits, none, o_less, o_late, o_wider, some v_rest, some v_other, some v_both, o_low, o_high, some v_more, some v_longer, o_least, some v_names, some v_turned, none, some v_wild, some v_told, some v_good, some v_pair, some v_small] _ _ _
          have hPr := pairs_ck hX hwf hKw
          change BlkS _ _ _ _ (upd W' dl (.lst [.ref sa, .int ((k3 : Nat) : Int)])) _
          refine bl_drop wn_draw (.cons h_sa (.cons (.int _) .nil)) (by simp) (fun F_ e_ => ?_)
          replace h_script := h_script.mono e_
          replace h_sa := h_sa.mono e_
          replace h_commits := h_commits.mono e_
          replace h_pages := h_pages.mono e_
          replace h_some := h_some.mono e_
          replace h_whole := h_whole.mono e_
          replace h_found := h_found.mono e_
          replace h_fits := h_fits.mono e_
          replace h_rest := h_rest.mono e_
          replace h_other := h_other.mono e_
          replace h_both := h_both.mono e_
          replace h_more := h_more.mono e_
          replace h_longer := h_longer.mono e_
          replace h_names := h_names.mono e_
          replace h_turned := h_turned.mono e_
          replace h_wild := h_wild.mono e_
          replace h_told := h_told.mono e_
          replace h_good := h_good.mono e_
          replace h_pair := h_pair.mono e_
          replace h_small := h_small.mono e_
          exact bl_ret (ev_is (d1 := .bl true) (ev_and (ev_cm (ev_is (d1 := eVd CP CA (Vd.apart ("a" : Str) (some ("b" : Str)))) (ev_make InA (hr.mono (by decide)) (ea_cons ev_str (ea_cons (ev_is (d1 := (eO D.str) (some ("b" : Str))) ev_str rfl) ea_nil)) ⟨("a" : Str), (some ("b" : Str)), rfl, rfl⟩) rfl) (ev_is (d1 := eVd CP CA (Vd.apart ("b" : Str) (some ("a" : Str)))) (ev_make InA (hr.mono (by decide)) (ea_cons ev_str (ea_cons (ev_is (d1 := (eO D.str) (some ("a" : Str))) ev_str rfl) ea_nil)) ⟨("b" : Str), (some ("a" : Str)), rfl, rfl⟩) rfl) (cm_neVd (u := (Vd.apart ("a" : Str) (some ("b" : Str)))) (v := (Vd.apart ("b" : Str) (some ("a" : Str)))) Y Mq (hr.mono (by decide)))) (fun hb112 => (ev_bop1 (ev_cm (ev_boolVd (v := told) Mq T.bool (ev_var (i := 27) rfl h_told) (hr.mono (by decide))) (ev_blt T.all cl_all (ea_cons (ev_ofLc (lc_M (own := [("pair", 29)]) (f := (eT Sum.inr D.int)) (g := D.bl) (fun x113 => ((m_judge_contents (commits) (answered) (x113))).isPre) (ei_row (ev_call C__law_pairs (hr.mono (by decide)) (ea_cons (ev_var (i := 6) rfl h_some) (ea_cons (ev_var (i := 26) rfl h_wild) ea_nil)) (⟨(some_), (wild), (by exact ⟨fun z hz => wl_some hwf hz, by omega⟩), rfl, rfl⟩))) (by first | (first | assumption | omega | (simp only [List.length_map, enumT_len, rg_len]; omega) | (simp; done) | (simp; omega)) | exact pairs_len hsl | (have := s4_len (hX.cm _ (by assumption)); omega)) (fun x113 hx114 v_ F1_ e_ r115 => by
      replace h_script := h_script.mono e_
      replace h_sa := h_sa.mono e_
      replace h_commits := h_commits.mono e_
      replace h_pages := h_pages.mono e_
      replace h_some := h_some.mono e_
      replace h_whole := h_whole.mono e_
      replace h_found := h_found.mono e_
      replace h_fits := h_fits.mono e_
      replace h_rest := h_rest.mono e_
      replace h_other := h_other.mono e_
      replace h_both := h_both.mono e_
      replace h_more := h_more.mono e_
      replace h_longer := h_longer.mono e_
      replace h_names := h_names.mono e_
      replace h_turned := h_turned.mono e_
      replace h_wild := h_wild.mono e_
      replace h_told := h_told.mono e_
      replace h_good := h_good.mono e_
      replace h_pair := h_pair.mono e_
      replace h_small := h_small.mono e_
      intro s_ H0_ C_ cl_ fp_
      refine tg_name (i := 29) ?_
      refine ⟨((wipe_set (by decide)).trans (wipe_wipe)), fun s_ H0_ C_ cl_ fp_ => ?_, fun ht_ s_ H0_ C_ cl_ fp_ => ?_⟩
      · exact ets_nil
      · exact (ev_boolVd (v := (m_judge_contents (commits) (answered) (x113))) Mq T.bool (ev_call C_judge_contents (hr.mono (by decide)) (ea_cons (ev_var (i := 2) rfl h_commits) (ea_cons (ev_var (i := 5) rfl (.int _)) (ea_cons (ev_var (i := 29) rfl r115) ea_nil))) (⟨(commits), (answered), (x113), (by first | assumption | exact hPr _ (by assumption)), rfl, rfl⟩)) (hr.mono (by decide))))) (ok := blkOk_by (N := N25) (sc := defScope s25) (by decide +kernel))) ea_nil) rfl) (cm_eq (f := D.bl) (x := (told).isPre) (y := (((((m__law_pairs (some_) (wild))).map fun x113 => ((m_judge_contents (commits) (answered) (x113))).isPre)).all id)) hr lw_bl))))) (congrArg D.bl (by exact nv170 hX hwf hKw hJ))) ⟨rfl, rfl⟩
        · change BlkS _ _ [some v_script, some (.ref dl), some v_commits, some v_pages, some (.int many), some (.int answered), some v_some, o_page, some v_whole, some v_found, some v_fits, none, o_less, o_late, o_wider, some v_rest, some v_other, some v_both, o_low, o_high, some v_more, some v_longer, o_least, some v_names, some v_turned, none, some v_wild, some v_told, some v_good, none, none] _ _ _
          have hPr := pairs_ck hX hwf hKw
          change BlkS _ _ _ _ (upd W' dl (.lst [.ref sa, .int ((k3 : Nat) : Int)])) _
          refine bl_drop wn_draw (.cons h_sa (.cons (.int _) .nil)) (by simp) (fun F_ e_ => ?_)
          replace h_script := h_script.mono e_
          replace h_sa := h_sa.mono e_
          replace h_commits := h_commits.mono e_
          replace h_pages := h_pages.mono e_
          replace h_some := h_some.mono e_
          replace h_whole := h_whole.mono e_
          replace h_found := h_found.mono e_
          replace h_fits := h_fits.mono e_
          replace h_rest := h_rest.mono e_
          replace h_other := h_other.mono e_
          replace h_both := h_both.mono e_
          replace h_more := h_more.mono e_
          replace h_longer := h_longer.mono e_
          replace h_names := h_names.mono e_
          replace h_turned := h_turned.mono e_
          replace h_wild := h_wild.mono e_
          replace h_told := h_told.mono e_
          replace h_good := h_good.mono e_
          exact bl_ret (ev_is (d1 := .bl true) (ev_and (ev_cm (ev_is (d1 := eVd CP CA (Vd.apart ("a" : Str) (some ("b" : Str)))) (ev_make InA (hr.mono (by decide)) (ea_cons ev_str (ea_cons (ev_is (d1 := (eO D.str) (some ("b" : Str))) ev_str rfl) ea_nil)) ⟨("a" : Str), (some ("b" : Str)), rfl, rfl⟩) rfl) (ev_is (d1 := eVd CP CA (Vd.apart ("b" : Str) (some ("a" : Str)))) (ev_make InA (hr.mono (by decide)) (ea_cons ev_str (ea_cons (ev_is (d1 := (eO D.str) (some ("a" : Str))) ev_str rfl) ea_nil)) ⟨("b" : Str), (some ("a" : Str)), rfl, rfl⟩) rfl) (cm_neVd (u := (Vd.apart ("a" : Str) (some ("b" : Str)))) (v := (Vd.apart ("b" : Str) (some ("a" : Str)))) Y Mq (hr.mono (by decide)))) (fun hb116 => (ev_bop1 (ev_cm (ev_boolVd (v := told) Mq T.bool (ev_var (i := 27) rfl h_told) (hr.mono (by decide))) (ev_blt T.all cl_all (ea_cons (ev_ofLc (lc_M (own := [("pair", 29)]) (f := (eT Sum.inr D.int)) (g := D.bl) (fun x117 => ((m_judge_contents (commits) (answered) (x117))).isPre) (ei_row (ev_call C__law_pairs (hr.mono (by decide)) (ea_cons (ev_var (i := 6) rfl h_some) (ea_cons (ev_var (i := 26) rfl h_wild) ea_nil)) (⟨(some_), (wild), (by exact ⟨fun z hz => wl_some hwf hz, by omega⟩), rfl, rfl⟩))) (by first | (first | assumption | omega | (simp only [List.length_map, enumT_len, rg_len]; omega) | (simp; done) | (simp; omega)) | exact pairs_len hsl | (have := s4_len (hX.cm _ (by assumption)); omega)) (fun x117 hx118 v_ F1_ e_ r119 => by
      replace h_script := h_script.mono e_
      replace h_sa := h_sa.mono e_
      replace h_commits := h_commits.mono e_
      replace h_pages := h_pages.mono e_
      replace h_some := h_some.mono e_
      replace h_whole := h_whole.mono e_
      replace h_found := h_found.mono e_
      replace h_fits := h_fits.mono e_
      replace h_rest := h_rest.mono e_
      replace h_other := h_other.mono e_
      replace h_both := h_both.mono e_
      replace h_more := h_more.mono e_
      replace h_longer := h_longer.mono e_
      replace h_names := h_names.mono e_
      replace h_turned := h_turned.mono e_
      replace h_wild := h_wild.mono e_
      replace h_told := h_told.mono e_
      replace h_good := h_good.mono e_
      intro s_ H0_ C_ cl_ fp_
      refine tg_name (i := 29) ?_
      refine ⟨((wipe_set (by decide)).trans (wipe_wipe)), fun s_ H0_ C_ cl_ fp_ => ?_, fun ht_ s_ H0_ C_ cl_ fp_ => ?_⟩
      · exact ets_nil
      · exact (ev_boolVd (v := (m_judge_contents (commits) (answered) (x117))) Mq T.bool (ev_call C_judge_contents (hr.mono (by decide)) (ea_cons (ev_var (i := 2) rfl h_commits) (ea_cons (ev_var (i := 5) rfl (.int _)) (ea_cons (ev_var (i := 29) rfl r119) ea_nil))) (⟨(commits), (answered), (x117), (by first | assumption | exact hPr _ (by assumption)), rfl, rfl⟩)) (hr.mono (by decide))))) (ok := blkOk_by (N := N25) (sc := defScope s25) (by decide +kernel))) ea_nil) rfl) (cm_eq (f := D.bl) (x := (told).isPre) (y := (((((m__law_pairs (some_) (wild))).map fun x117 => ((m_judge_contents (commits) (answered) (x117))).isPre)).all id)) hr lw_bl))))) (congrArg D.bl (by exact nv170 hX hwf hKw hJ))) ⟨rfl, rfl⟩
end
end B
set_option Elab.async false
set_option linter.all false
set_option maxRecDepth 100000
set_option maxHeartbeats 4000000
namespace B
open PySem PySem.Spec PyProof.Rows L2 Z
theorem law_sp {K : PySem.W.Frag} {H : Hp} {a : Addr} {ns : List Int} (hl : ns.length ≤ 63) (hO : Only H) (hS : SqL K H a (ns.map V.int)) : spG (relP (r_law K)) [.ref a] H (fun v _ => v = .bl true) fun _ _ _ => False := by
  refine ⟨H, fun _ => none, [eZ K ns], .bl true, fun _ => none, ⟨fun b o h => .inl h, fun b o h => (by cases h), fun b o h => rfl⟩, .cons (.fz ?_ (Reps.of_ints ns) (by rw [List.length_map]; omega)) .nil, ⟨⟨ns, hl, rfl, rfl⟩, rfl⟩, fun v F' H' g r => by cases r; rfl⟩
  rcases hS with (h | ⟨o, h⟩) | h
  · rcases hO a with q | ⟨o, xs, q⟩
    · rw [q] at h; cases h
    · rw [q] at h; cases h
  · exact .inl ⟨o, h⟩
  · exact .inr h
theorem kit_no {K : PySem.W.Frag} {C C2 : Addr} (hne : (Value.ref C == Value.ref C2) = false) (h1 : PySem.W.isClsIn K C2 = true) (h2 : PySem.W.typeIn K (.ref C2) = some (.type "type")) (h3 : PySem.W.subIn K (.ref C) (.ref C2) = some false) : PySem.W.kitOne K (.ref C) (.ref C2) = some false := by
  unfold PySem.W.kitOne PySem.W.kitCls
  rw [if_neg (by rw [hne]; decide)]
  show (if ((PySem.W.clsIn K C2).isSome && PySem.W.typeIn K (.ref C2) == some (.type "type")) = true then PySem.W.subIn K (.ref C) (.ref C2) else none) = some false
  rw [if_pos (by unfold PySem.W.isClsIn at h1; rw [h1, h2]; simp)]
  exact h3
theorem all_mk {l : PySem.W.OpenLaw} {w : World} {K : PySem.W.Frag} {h : Heap} {mg : Str → Option Value} {fa CP CA : Addr} (X : K.In h) (G : h.Ns mainGlobals mg) (hfa : mg "law" = some (.ref fa)) {t1 t2 t3 : Tok}
    {f0 f1 f2 f3 f4 f5 f6 f7 f8 f9 f10 f11 f12 f13 f14 f15 f16 f17 f18 f19 f20 f21 f22 : Addr} {od0 od1 od2 od3 od4 od5 od6 od7 od8 od9 od10 od11 od12 od13 od14 od15 od16 od17 od18 od19 od20 od21 od22 : Option Addr} {an0 an1 an2 an3 an4 an5 an6 an7 an8 an9 an10 an11 an12 an13 an14 an15 an16 an17 an18 an19 an20 an21 an22 : Option Addr} {sl0 sl1 sl2 sl3 sl4 sl5 sl6 sl7 sl8 sl9 sl10 sl11 sl12 sl13 sl14 sl15 sl16 sl17 sl18 sl19 sl20 sl21 sl22 : Array (Option Value)} {oc0 oc1 oc2 oc3 oc4 oc5 oc6 oc7 oc8 oc9 oc10 oc11 oc12 oc13 oc14 oc15 oc16 oc17 oc18 oc19 oc20 oc21 oc22 : Value} {kV0 kV1 kV2 kV3 kV4 kV5 kV6 kV7 kV8 kV9 kV10 kV11 kV12 kV13 kV14 kV15 kV16 kV17 kV18 kV19 kV20 kV21 kV22 : Value} {dc0 dc1 dc2 dc3 dc4 dc5 dc6 dc7 dc8 dc9 dc10 dc11 dc12 dc13 dc14 dc15 dc16 dc17 dc18 dc19 dc20 dc21 dc22 : Value} {pm0 pm1 pm2 pm3 pm4 pm5 pm6 pm7 pm8 pm9 pm10 pm11 pm12 pm13 pm14 pm15 pm16 pm17 pm18 pm19 pm20 pm21 pm22 : Value} {cd0 cd1 cd2 cd3 cd4 cd5 cd6 cd7 cd8 cd9 cd10 cd11 cd12 cd13 cd14 cd15 cd16 cd17 cd18 cd19 cd20 cd21 cd22 : Value} {ct0 ct1 ct2 ct3 ct4 ct5 ct6 ct7 ct8 ct9 ct10 ct11 ct12 ct13 ct14 ct15 ct16 ct17 ct18 ct19 ct20 ct21 ct22 : Value}
    (aP : PySem.W.nsIn K mainGlobals "Prefix" = some (some (.ref CP))) (aA : PySem.W.nsIn K mainGlobals "Apart" = some (some (.ref CA))) (a0 : PySem.W.nsIn K mainGlobals "is_integer" = some (some (.ref f0))) (l0 : K.lookup f0 = some ⟨oc0, od0, .func (PySem.W.fnOf "is_integer" "is_integer" (defArgs s6) (defBody s6) (defScope s6) .none kV0 dc0 pm0 an0 cd0 ct0), sl0⟩) (c0 : PySem.W.codeIn K cd0 "is_integer" = true) (k0 : PySem.W.keepIn K (.ref f0) = true) (a1 : PySem.W.nsIn K mainGlobals "is_row" = some (some (.ref f1))) (l1 : K.lookup f1 = some ⟨oc1, od1, .func (PySem.W.fnOf "is_row" "is_row" (defArgs s7) (defBody s7) (defScope s7) .none kV1 dc1 pm1 an1 cd1 ct1), sl1⟩) (c1 : PySem.W.codeIn K cd1 "is_row" = true) (k1 : PySem.W.keepIn K (.ref f1) = true) (a2 : PySem.W.nsIn K mainGlobals "is_name" = some (some (.ref f2))) (l2 : K.lookup f2 = some ⟨oc2, od2, .func (PySem.W.fnOf "is_name" "is_name" (defArgs s8) (defBody s8) (defScope s8) .none kV2 dc2 pm2 an2 cd2 ct2), sl2⟩) (c2 : PySem.W.codeIn K cd2 "is_name" = true) (k2 : PySem.W.keepIn K (.ref f2) = true) (a3 : PySem.W.nsIn K mainGlobals "is_pages" = some (some (.ref f3))) (l3 : K.lookup f3 = some ⟨oc3, od3, .func (PySem.W.fnOf "is_pages" "is_pages" (defArgs s9) (defBody s9) (defScope s9) .none kV3 dc3 pm3 an3 cd3 ct3), sl3⟩) (c3 : PySem.W.codeIn K cd3 "is_pages" = true) (k3 : PySem.W.keepIn K (.ref f3) = true) (a4 : PySem.W.nsIn K mainGlobals "check_commits" = some (some (.ref f4))) (l4 : K.lookup f4 = some ⟨oc4, od4, .func (PySem.W.fnOf "check_commits" "check_commits" (defArgs s12) (defBody s12) (defScope s12) .none kV4 dc4 pm4 an4 cd4 ct4), sl4⟩) (c4 : PySem.W.codeIn K cd4 "check_commits" = true) (k4 : PySem.W.keepIn K (.ref f4) = true) (a5 : PySem.W.nsIn K mainGlobals "interval" = some (some (.ref f5))) (l5 : K.lookup f5 = some ⟨oc5, od5, .func (PySem.W.fnOf "interval" "interval" (defArgs s13) (defBody s13) (defScope s13) .none kV5 dc5 pm5 an5 cd5 ct5), sl5⟩) (c5 : PySem.W.codeIn K cd5 "interval" = true) (k5 : PySem.W.keepIn K (.ref f5) = true) (a6 : PySem.W.nsIn K mainGlobals "is_meeting" = some (some (.ref f6))) (l6 : K.lookup f6 = some ⟨oc6, od6, .func (PySem.W.fnOf "is_meeting" "is_meeting" (defArgs s16) (defBody s16) (defScope s16) .none kV6 dc6 pm6 an6 cd6 ct6), sl6⟩) (c6 : PySem.W.codeIn K cd6 "is_meeting" = true) (k6 : PySem.W.keepIn K (.ref f6) = true) (a7 : PySem.W.nsIn K mainGlobals "judge_contents" = some (some (.ref f7))) (l7 : K.lookup f7 = some ⟨oc7, od7, .func (PySem.W.fnOf "judge_contents" "judge_contents" (defArgs s17) (defBody s17) (defScope s17) .none kV7 dc7 pm7 an7 cd7 ct7), sl7⟩) (c7 : PySem.W.codeIn K cd7 "judge_contents" = true) (k7 : PySem.W.keepIn K (.ref f7) = true) (a8 : PySem.W.nsIn K mainGlobals "_law_number" = some (some (.ref f8))) (l8 : K.lookup f8 = some ⟨oc8, od8, .func (PySem.W.fnOf "_law_number" "_law_number" (defArgs s19) (defBody s19) (defScope s19) .none kV8 dc8 pm8 an8 cd8 ct8), sl8⟩) (c8 : PySem.W.codeIn K cd8 "_law_number" = true) (k8 : PySem.W.keepIn K (.ref f8) = true) (a9 : PySem.W.nsIn K mainGlobals "_law_take" = some (some (.ref f9))) (l9 : K.lookup f9 = some ⟨oc9, od9, .func (PySem.W.fnOf "_law_take" "_law_take" (defArgs s20) (defBody s20) (defScope s20) .none kV9 dc9 pm9 an9 cd9 ct9), sl9⟩) (c9 : PySem.W.codeIn K cd9 "_law_take" = true) (k9 : PySem.W.keepIn K (.ref f9) = true) (a10 : PySem.W.nsIn K mainGlobals "_law_commits" = some (some (.ref f10))) (l10 : K.lookup f10 = some ⟨oc10, od10, .func (PySem.W.fnOf "_law_commits" "_law_commits" (defArgs s21) (defBody s21) (defScope s21) .none kV10 dc10 pm10 an10 cd10 ct10), sl10⟩) (c10 : PySem.W.codeIn K cd10 "_law_commits" = true) (k10 : PySem.W.keepIn K (.ref f10) = true) (a11 : PySem.W.nsIn K mainGlobals "_law_last" = some (some (.ref f11))) (l11 : K.lookup f11 = some ⟨oc11, od11, .func (PySem.W.fnOf "_law_last" "_law_last" (defArgs s22) (defBody s22) (defScope s22) .none kV11 dc11 pm11 an11 cd11 ct11), sl11⟩) (c11 : PySem.W.codeIn K cd11 "_law_last" = true) (k11 : PySem.W.keepIn K (.ref f11) = true) (a12 : PySem.W.nsIn K mainGlobals "_law_contents" = some (some (.ref f12))) (l12 : K.lookup f12 = some ⟨oc12, od12, .func (PySem.W.fnOf "_law_contents" "_law_contents" (defArgs s23) (defBody s23) (defScope s23) .none kV12 dc12 pm12 an12 cd12 ct12), sl12⟩) (c12 : PySem.W.codeIn K cd12 "_law_contents" = true) (k12 : PySem.W.keepIn K (.ref f12) = true) (a13 : PySem.W.nsIn K mainGlobals "_law_pairs" = some (some (.ref f13))) (l13 : K.lookup f13 = some ⟨oc13, od13, .func (PySem.W.fnOf "_law_pairs" "_law_pairs" (defArgs s24) (defBody s24) (defScope s24) .none kV13 dc13 pm13 an13 cd13 ct13), sl13⟩) (c13 : PySem.W.codeIn K cd13 "_law_pairs" = true) (k13 : PySem.W.keepIn K (.ref f13) = true) (a14 : PySem.W.nsIn K mainGlobals "law" = some (some (.ref f14))) (l14 : K.lookup f14 = some ⟨oc14, od14, .func (PySem.W.fnOf "law" "law" (defArgs s25) (defBody s25) (defScope s25) .none kV14 dc14 pm14 an14 cd14 ct14), sl14⟩) (c14 : PySem.W.codeIn K cd14 "law" = true) (k14 : PySem.W.keepIn K (.ref f14) = true) (a15 : PySem.W.findIn K (.ref CP) "__init__" = some (some (.ref f15))) (i15 : PySem.W.isFn K (.ref f15) = true) (l15 : K.lookup f15 = some ⟨oc15, od15, .func (PySem.W.fnOf "__init__" "Prefix.__init__" (defArgs s14x0) (defBody s14x0) (defScope s14x0) .none kV15 dc15 pm15 an15 cd15 ct15), sl15⟩) (c15 : PySem.W.codeIn K cd15 "Prefix.__init__" = true) (k15 : PySem.W.keepIn K (.ref f15) = true) (a16 : PySem.W.findIn K (.ref CA) "__init__" = some (some (.ref f16))) (i16 : PySem.W.isFn K (.ref f16) = true) (l16 : K.lookup f16 = some ⟨oc16, od16, .func (PySem.W.fnOf "__init__" "Apart.__init__" (defArgs s15x0) (defBody s15x0) (defScope s15x0) .none kV16 dc16 pm16 an16 cd16 ct16), sl16⟩) (c16 : PySem.W.codeIn K cd16 "Apart.__init__" = true) (k16 : PySem.W.keepIn K (.ref f16) = true) (a17 : PySem.W.findIn K (.ref CP) "__bool__" = some (some (.ref f17))) (i17 : PySem.W.isFn K (.ref f17) = true) (l17 : K.lookup f17 = some ⟨oc17, od17, .func (PySem.W.fnOf "__bool__" "Prefix.__bool__" (defArgs s14x1) (defBody s14x1) (defScope s14x1) .none kV17 dc17 pm17 an17 cd17 ct17), sl17⟩) (c17 : PySem.W.codeIn K cd17 "Prefix.__bool__" = true) (k17 : PySem.W.keepIn K (.ref f17) = true) (a18 : PySem.W.findIn K (.ref CA) "__bool__" = some (some (.ref f18))) (i18 : PySem.W.isFn K (.ref f18) = true) (l18 : K.lookup f18 = some ⟨oc18, od18, .func (PySem.W.fnOf "__bool__" "Apart.__bool__" (defArgs s15x1) (defBody s15x1) (defScope s15x1) .none kV18 dc18 pm18 an18 cd18 ct18), sl18⟩) (c18 : PySem.W.codeIn K cd18 "Apart.__bool__" = true) (k18 : PySem.W.keepIn K (.ref f18) = true) (a19 : PySem.W.findIn K (.ref CP) "__eq__" = some (some (.ref f19))) (i19 : PySem.W.isFn K (.ref f19) = true) (l19 : K.lookup f19 = some ⟨oc19, od19, .func (PySem.W.fnOf "__eq__" "Prefix.__eq__" (defArgs s14x2) (defBody s14x2) (defScope s14x2) .none kV19 dc19 pm19 an19 cd19 ct19), sl19⟩) (c19 : PySem.W.codeIn K cd19 "Prefix.__eq__" = true) (k19 : PySem.W.keepIn K (.ref f19) = true) (a20 : PySem.W.findIn K (.ref CA) "__eq__" = some (some (.ref f20))) (i20 : PySem.W.isFn K (.ref f20) = true) (l20 : K.lookup f20 = some ⟨oc20, od20, .func (PySem.W.fnOf "__eq__" "Apart.__eq__" (defArgs s15x2) (defBody s15x2) (defScope s15x2) .none kV20 dc20 pm20 an20 cd20 ct20), sl20⟩) (c20 : PySem.W.codeIn K cd20 "Apart.__eq__" = true) (k20 : PySem.W.keepIn K (.ref f20) = true) (a21 : PySem.W.findIn K (.ref CA) "shows" = some (some (.ref f21))) (i21 : PySem.W.isFn K (.ref f21) = true) (l21 : K.lookup f21 = some ⟨oc21, od21, .func (PySem.W.fnOf "shows" "Apart.shows" (defArgs s15x3) (defBody s15x3) (defScope s15x3) .none kV21 dc21 pm21 an21 cd21 ct21), sl21⟩) (c21 : PySem.W.codeIn K cd21 "Apart.shows" = true) (k21 : PySem.W.keepIn K (.ref f21) = true) (a22 : PySem.W.findIn K (.ref CP) "shows" = some (some (.ref f22))) (i22 : PySem.W.isFn K (.ref f22) = true) (l22 : K.lookup f22 = some ⟨oc22, od22, .func (PySem.W.fnOf "shows" "Prefix.shows" (defArgs s14x3) (defBody s14x3) (defScope s14x3) .none kV22 dc22 pm22 an22 cd22 ct22), sl22⟩) (c22 : PySem.W.codeIn K cd22 "Prefix.shows" = true) (k22 : PySem.W.keepIn K (.ref f22) = true) (pgp : PySem.W.plainGet K CP Str.empty = true) (hdp : PySem.W.hasDictIn K CP = true) (pop : PySem.W.plainOver K CP = true) (sap : PySem.W.findIn K (.ref CP) "__setattr__" = some (some (.builtin "object.__setattr__"))) (nep : PySem.W.findIn K (.ref CP) "__ne__" = some (some (.builtin "object.__ne__"))) (obp : PySem.W.mroIn K CP (.type "object") = some true) (clp : PySem.W.findIn K (.ref CP) "__class__" = some (some (.builtin "object.__class__"))) (mkp : PySem.W.makesIn K CP = true) (kcp : PySem.W.keepIn K (.ref CP) = true) (pga : PySem.W.plainGet K CA Str.empty = true) (hda : PySem.W.hasDictIn K CA = true) (poa : PySem.W.plainOver K CA = true) (saa : PySem.W.findIn K (.ref CA) "__setattr__" = some (some (.builtin "object.__setattr__"))) (nea : PySem.W.findIn K (.ref CA) "__ne__" = some (some (.builtin "object.__ne__"))) (oba : PySem.W.mroIn K CA (.type "object") = some true) (cla : PySem.W.findIn K (.ref CA) "__class__" = some (some (.builtin "object.__class__"))) (mka : PySem.W.makesIn K CA = true) (kca : PySem.W.keepIn K (.ref CA) = true) (gt : PySem.W.specialIn K (.builtin "object.__class__") "__get__" = some (some (.builtin "getset_descriptor.__get__"))) (no1 : PySem.W.findIn K (.ref CP) "least" = some none) (no2 : PySem.W.findIn K (.ref CP) "greatest" = some none) (no3 : PySem.W.findIn K (.ref CA) "one" = some none) (no4 : PySem.W.findIn K (.ref CA) "other" = some none) (tk : PySem.W.takesIn K (.builtin "object.__class__") = some true) (npp : PySem.W.notFirst K CP (.ref CP) = true) (npa : PySem.W.notFirst K CP (.ref CA) = true) (nap : PySem.W.notFirst K CA (.ref CP) = true) (naa : PySem.W.notFirst K CA (.ref CA) = true) (ekpa : (Value.ref CP == Value.ref CA) = false) (ckpa : PySem.W.isClsIn K CA = true) (tkpa : PySem.W.typeIn K (.ref CA) = some (.type "type")) (skpa : PySem.W.subIn K (.ref CP) (.ref CA) = some false) (ekap : (Value.ref CA == Value.ref CP) = false) (ckap : PySem.W.isClsIn K CP = true) (tkap : PySem.W.typeIn K (.ref CP) = some (.type "type")) (skap : PySem.W.subIn K (.ref CA) (.ref CP) = some false) (sm : PySem.W.nsIn K mainGlobals "SMALL" = some (some (.str "abcdefghijklmnopqrstuvwxyz" t1))) (fg : PySem.W.nsIn K mainGlobals "FIGURES" = some (some (.str "0123456789" t2))) (mn : PySem.W.nsIn K mainGlobals "MOST_NAME" = some (some (.int 8 t3))) (z0 : PySem.W.nsIn K mainGlobals "isinstance" = some none) (z1 : PySem.W.nsIn K mainGlobals "int" = some none) (z2 : PySem.W.nsIn K mainGlobals "bool" = some none) (z3 : PySem.W.nsIn K mainGlobals "str" = some none) (z4 : PySem.W.nsIn K mainGlobals "len" = some none) (z5 : PySem.W.nsIn K mainGlobals "all" = some none) (z6 : PySem.W.nsIn K mainGlobals "list" = some none) (z7 : PySem.W.nsIn K mainGlobals "tuple" = some none) (z8 : PySem.W.nsIn K mainGlobals "dict" = some none) (z9 : PySem.W.nsIn K mainGlobals "sorted" = some none) (z10 : PySem.W.nsIn K mainGlobals "set" = some none) (z11 : PySem.W.nsIn K mainGlobals "enumerate" = some none) (z12 : PySem.W.nsIn K mainGlobals "zip" = some none) (z13 : PySem.W.nsIn K mainGlobals "range" = some none) (z14 : PySem.W.nsIn K mainGlobals "max" = some none) (z15 : PySem.W.nsIn K mainGlobals "min" = some none) :
    ∃ fd : FuncData, (∀ (s : Shared) (v : Value), BindsTo s fd ⟨[v], []⟩ [("script", v)]) ∧ ∀ base : Heap, K.In base → base.Ns mainGlobals mg → FnOk l.prog w K mg base CX0 7 fa fd ["script"] (spG (relP (r_law K))) := by
  have e := hfa.symm.trans (PySem.W.mg_of X G a14)
  cases e
  have T : Txt K mg := { isinstance := PySem.W.mg_none_of X G z0, int := PySem.W.mg_none_of X G z1, bool := PySem.W.mg_none_of X G z2, str := PySem.W.mg_none_of X G z3, len := PySem.W.mg_none_of X G z4, all := PySem.W.mg_none_of X G z5, list := PySem.W.mg_none_of X G z6, tuple := PySem.W.mg_none_of X G z7, dict := PySem.W.mg_none_of X G z8, sorted := PySem.W.mg_none_of X G z9, set := PySem.W.mg_none_of X G z10, enumerate := PySem.W.mg_none_of X G z11, zip := PySem.W.mg_none_of X G z12, range := PySem.W.mg_none_of X G z13, max := PySem.W.mg_none_of X G z14, min := PySem.W.mg_none_of X G z15, SMALL := ⟨t1, PySem.W.mg_of X G sm⟩, FIGURES := ⟨t2, PySem.W.mg_of X G fg⟩, MOST_NAME := ⟨t3, PySem.W.mg_of X G mn⟩ }
  have Y : Cl K mg CP CA := ⟨⟨⟨pgp, hdp, pop, sap⟩, nep, obp, clp, gt, tk⟩, ⟨⟨pga, hda, poa, saa⟩, nea, oba, cla, gt, tk⟩, PySem.W.mg_of X G aP, PySem.W.mg_of X G aA, no1, no2, no3, no4, by unfold PySem.W.kitOne; exact if_pos (by simp), kit_no ekpa ckpa tkpa skpa, kit_no ekap ckap tkap skap, by unfold PySem.W.kitOne; exact if_pos (by simp), npp, npa, nap, naa⟩
  have F0 := fun_mk (st := s6) l0 c0 k0
  have b0 := F0.binds (ps := ["thing"]) fun _ _ _ _ _ _ us hl => match us, hl with | [_], _ => rfl
  have F1 := fun_mk (st := s7) l1 c1 k1
  have b1 := F1.binds (ps := ["thing"]) fun _ _ _ _ _ _ us hl => match us, hl with | [_], _ => rfl
  have F2 := fun_mk (st := s8) l2 c2 k2
  have b2 := F2.binds (ps := ["thing"]) fun _ _ _ _ _ _ us hl => match us, hl with | [_], _ => rfl
  have F3 := fun_mk (st := s9) l3 c3 k3
  have b3 := F3.binds (ps := ["thing"]) fun _ _ _ _ _ _ us hl => match us, hl with | [_], _ => rfl
  have F4 := fun_mk (st := s12) l4 c4 k4
  have b4 := F4.binds (ps := ["commits", "answered", "contents"]) fun _ _ _ _ _ _ us hl => match us, hl with | [_, _, _], _ => rfl
  have F5 := fun_mk (st := s13) l5 c5 k5
  have b5 := F5.binds (ps := ["commits", "page", "number"]) fun _ _ _ _ _ _ us hl => match us, hl with | [_, _, _], _ => rfl
  have F6 := fun_mk (st := s16) l6 c6 k6
  have b6 := F6.binds (ps := ["one", "other"]) fun _ _ _ _ _ _ us hl => match us, hl with | [_, _], _ => rfl
  have F7 := fun_mk (st := s17) l7 c7 k7
  have b7 := F7.binds (ps := ["commits", "answered", "contents"]) fun _ _ _ _ _ _ us hl => match us, hl with | [_, _, _], _ => rfl
  have F8 := fun_mk (st := s19) l8 c8 k8
  have b8 := F8.binds (ps := ["script", "index"]) fun _ _ _ _ _ _ us hl => match us, hl with | [_, _], _ => rfl
  have F9 := fun_mk (st := s20) l9 c9 k9
  have b9 := F9.binds (ps := ["draw", "many"]) fun _ _ _ _ _ _ us hl => match us, hl with | [_, _], _ => rfl
  have F10 := fun_mk (st := s21) l10 c10 k10
  have b10 := F10.binds (ps := ["draw", "most"]) fun _ _ _ _ _ _ us hl => match us, hl with | [_, _], _ => rfl
  have F11 := fun_mk (st := s22) l11 c11 k11
  have b11 := F11.binds (ps := ["commits", "many", "page"]) fun _ _ _ _ _ _ us hl => match us, hl with | [_, _, _], _ => rfl
  have F12 := fun_mk (st := s23) l12 c12 k12
  have b12 := F12.binds (ps := ["commits", "many", "pages"]) fun _ _ _ _ _ _ us hl => match us, hl with | [_, _, _], _ => rfl
  have F13 := fun_mk (st := s24) l13 c13 k13
  have b13 := F13.binds (ps := ["some", "wild"]) fun _ _ _ _ _ _ us hl => match us, hl with | [_, _], _ => rfl
  have F14 := fun_mk (st := s25) l14 c14 k14
  have b14 := F14.binds (ps := ["script"]) fun _ _ _ _ _ _ us hl => match us, hl with | [_], _ => rfl
  have F15 := fun_mk (st := s14x0) l15 c15 k15
  have b15 := F15.binds (ps := ["self", "least", "greatest"]) fun _ _ _ _ _ _ us hl => match us, hl with | [_, _, _], _ => rfl
  have F16 := fun_mk (st := s15x0) l16 c16 k16
  have b16 := F16.binds (ps := ["self", "one", "other"]) fun _ _ _ _ _ _ us hl => match us, hl with | [_, _, _], _ => rfl
  have F17 := fun_mk (st := s14x1) l17 c17 k17
  have b17 := F17.binds (ps := ["self"]) fun _ _ _ _ _ _ us hl => match us, hl with | [_], _ => rfl
  have F18 := fun_mk (st := s15x1) l18 c18 k18
  have b18 := F18.binds (ps := ["self"]) fun _ _ _ _ _ _ us hl => match us, hl with | [_], _ => rfl
  have F19 := fun_mk (st := s14x2) l19 c19 k19
  have b19 := F19.binds (ps := ["self", "other"]) fun _ _ _ _ _ _ us hl => match us, hl with | [_, _], _ => rfl
  have F20 := fun_mk (st := s15x2) l20 c20 k20
  have b20 := F20.binds (ps := ["self", "other"]) fun _ _ _ _ _ _ us hl => match us, hl with | [_, _], _ => rfl
  have F21 := fun_mk (st := s15x3) l21 c21 k21
  have b21 := F21.binds (ps := ["self", "commits", "answered", "contents"]) fun _ _ _ _ _ _ us hl => match us, hl with | [_, _, _, _], _ => rfl
  have F22 := fun_mk (st := s14x3) l22 c22 k22
  have b22 := F22.binds (ps := ["self", "commits", "answered", "contents"]) fun _ _ _ _ _ _ us hl => match us, hl with | [_, _, _, _], _ => rfl
  refine ⟨PySem.W.fnOf "law" "law" (defArgs s25) (defBody s25) (defScope s25) .none kV14 dc14 pm14 an14 cd14 ct14, fun s v => .of_eq rfl, fun base _ _ => ?_⟩
  have InP : InD l.prog w K mg base 1 "Prefix" CP ["self", "least", "greatest"] rel_initP := ⟨f15, _, d_Prefix_init T Y F15, ⟨mkp, a15, i15, kcp⟩, PySem.W.mg_of X G aP, b15⟩
  have InA : InD l.prog w K mg base 1 "Apart" CA ["self", "one", "other"] rel_initA := ⟨f16, _, d_Apart_init T Y F16, ⟨mka, a16, i16, kca⟩, PySem.W.mg_of X G aA, b16⟩
  have M1 : MeD l.prog w K mg base 1 CP "__eq__" ["self", "other"] (relP (r_Prefix_eq CP CA))  := ⟨f19, _, d_Prefix_eq T Y F19, ⟨a19, i19, k19⟩, b19⟩
  have M2 : MeD l.prog w K mg base 1 CA "__eq__" ["self", "other"] (relP (r_Apart_eq CP CA))  := ⟨f20, _, d_Apart_eq T Y F20, ⟨a20, i20, k20⟩, b20⟩
  have M3 : MeD l.prog w K mg base 1 CP "__bool__" ["self"] (relP (r_Prefix_bool CP))  := ⟨f17, _, d_Prefix_bool T F17, ⟨a17, i17, k17⟩, b17⟩
  have M4 : MeD l.prog w K mg base 1 CA "__bool__" ["self"] (relP (r_Apart_bool CA))  := ⟨f18, _, d_Apart_bool T F18, ⟨a18, i18, k18⟩, b18⟩
  have Mq : Me l.prog w K mg base CP CA := ⟨M1, M2, M3, M4⟩
  have C_is_integer : FnD l.prog w K mg base 1 "is_integer" ["thing"] (relP r_is_integer) := ⟨f0, _, d_is_integer T F0, PySem.W.mg_of X G a0, k0, b0⟩
  have C_is_row : FnD l.prog w K mg base 1 "is_row" ["thing"] (relP r_is_row) := ⟨f1, _, d_is_row T F1, PySem.W.mg_of X G a1, k1, b1⟩
  have C_is_name : FnD l.prog w K mg base 1 "is_name" ["thing"] (relP r_is_name) := ⟨f2, _, d_is_name T F2, PySem.W.mg_of X G a2, k2, b2⟩
  have C_is_pages : FnD l.prog w K mg base 2 "is_pages" ["thing"] (relP r_is_pages) := ⟨f3, _, d_is_pages T C_is_name F3, PySem.W.mg_of X G a3, k3, b3⟩
  have C_check_commits : FnD l.prog w K mg base 3 "check_commits" ["commits", "answered", "contents"] (relP r_check_commits) := ⟨f4, _, d_check_commits T C_is_integer C_is_row C_is_name C_is_pages F4, PySem.W.mg_of X G a4, k4, b4⟩
  have C_interval : FnD l.prog w K mg base 1 "interval" ["commits", "page", "number"] (relP r_interval) := ⟨f5, _, d_interval T F5, PySem.W.mg_of X G a5, k5, b5⟩
  have C_is_meeting : FnD l.prog w K mg base 1 "is_meeting" ["one", "other"] (relP r_is_meeting) := ⟨f6, _, d_is_meeting T F6, PySem.W.mg_of X G a6, k6, b6⟩
  have C_judge_contents : FnD l.prog w K mg base 4 "judge_contents" ["commits", "answered", "contents"] (relP (r_judge_contents CP CA)) := ⟨f7, _, d_judge_contents T C_check_commits C_interval C_is_meeting Y InP InA F7, PySem.W.mg_of X G a7, k7, b7⟩
  have C__law_number : FnD l.prog w K mg base 1 "_law_number" ["script", "index"] (relP (r__law_number K)) := ⟨f8, _, d__law_number T F8, PySem.W.mg_of X G a8, k8, b8⟩
  have C_take : FnD l.prog w K mg base 2 "_law_take" ["draw", "many"] (r_take K) := ⟨f9, _, d_take T C__law_number F9, PySem.W.mg_of X G a9, k9, b9⟩
  have C_commits : FnD l.prog w K mg base 3 "_law_commits" ["draw", "most"] (r_commits K) := ⟨f10, _, d_commits T C_take F10, PySem.W.mg_of X G a10, k10, b10⟩
  have C__law_last : FnD l.prog w K mg base 1 "_law_last" ["commits", "many", "page"] (relP r__law_last) := ⟨f11, _, d__law_last T F11, PySem.W.mg_of X G a11, k11, b11⟩
  have C__law_contents : FnD l.prog w K mg base 2 "_law_contents" ["commits", "many", "pages"] (relP r__law_contents) := ⟨f12, _, d__law_contents T C__law_last F12, PySem.W.mg_of X G a12, k12, b12⟩
  have C__law_pairs : FnD l.prog w K mg base 1 "_law_pairs" ["some", "wild"] (relP r__law_pairs) := ⟨f13, _, d__law_pairs T F13, PySem.W.mg_of X G a13, k13, b13⟩
  have M5 : MeD l.prog w K mg base 5 CP "shows" ["self", "commits", "answered", "contents"] (relP (r_Prefix_shows CP))  := ⟨f22, _, d_Prefix_shows T C_judge_contents Y Mq F22, ⟨a22, i22, k22⟩, b22⟩
  have M6 : MeD l.prog w K mg base 4 CA "shows" ["self", "commits", "answered", "contents"] (relP (r_Apart_shows CA))  := ⟨f21, _, d_Apart_shows T C_is_name C_check_commits C_interval C_is_meeting Y F21, ⟨a21, i21, k21⟩, b21⟩
  have Ms : Sh l.prog w K mg base CP CA := ⟨M5, M6⟩
  exact d_law T Y Mq Ms InP InA C_take C_commits C_judge_contents C__law_contents C__law_pairs F14
end B
open PySem PySem.W PyProof.Rows
set_option maxHeartbeats 0 in
theorem PySem.Challenge.cw_storepages_k52_across_prefixes_holds : PySem.Challenge.rw_storepages_k52_across_prefixes.Holds := by
  w_on; o_law; k_head; (case hw => w_witness2)
  k_fill
  refine L2.walk_of (l := PySem.Challenge.rw_storepages_k52_across_prefixes) (n := 63) (k := 7) (x := "script") (CX := fun _ => L2.CX0) (sp := fun w => Z.spG (Z.relP (B.r_law _))) rfl (by decide) rfl ⟨rfl, by decide, by decide⟩ (fun w h Y => PySem.W.kIn_of Y) ?F (fun _ _ a ns hl hO hS => B.law_sp hl hO hS) (fun _ _ _ _ _ h => h)
  case F =>
    intro w mg fa h KX G hmg
    refine' B.all_mk KX G hmg ?aP ?aA ?a0 ?l0 ?c0 ?k0 ?a1 ?l1 ?c1 ?k1 ?a2 ?l2 ?c2 ?k2 ?a3 ?l3 ?c3 ?k3 ?a4 ?l4 ?c4 ?k4 ?a5 ?l5 ?c5 ?k5 ?a6 ?l6 ?c6 ?k6 ?a7 ?l7 ?c7 ?k7 ?a8 ?l8 ?c8 ?k8 ?a9 ?l9 ?c9 ?k9 ?a10 ?l10 ?c10 ?k10 ?a11 ?l11 ?c11 ?k11 ?a12 ?l12 ?c12 ?k12 ?a13 ?l13 ?c13 ?k13 ?a14 ?l14 ?c14 ?k14 ?a15 ?i15 ?l15 ?c15 ?k15 ?a16 ?i16 ?l16 ?c16 ?k16 ?a17 ?i17 ?l17 ?c17 ?k17 ?a18 ?i18 ?l18 ?c18 ?k18 ?a19 ?i19 ?l19 ?c19 ?k19 ?a20 ?i20 ?l20 ?c20 ?k20 ?a21 ?i21 ?l21 ?c21 ?k21 ?a22 ?i22 ?l22 ?c22 ?k22 ?pgp ?hdp ?pop ?sap ?nep ?obp ?clp ?mkp ?kcp ?pga ?hda ?poa ?saa ?nea ?oba ?cla ?mka ?kca ?gt ?no1 ?no2 ?no3 ?no4 ?tk ?npp ?npa ?nap ?naa ?ekpa ?ckpa ?tkpa ?skpa ?ekap ?ckap ?tkap ?skap ?sm ?fg ?mn ?z0 ?z1 ?z2 ?z3 ?z4 ?z5 ?z6 ?z7 ?z8 ?z9 ?z10 ?z11 ?z12 ?z13 ?z14 ?z15
    (case aP => k_is)
    (case aA => k_is)
    (case a0 => k_is)
    (case l0 => k_is)
    (case c0 => k_is)
    (case k0 => k_is)
    (case a1 => k_is)
    (case l1 => k_is)
    (case c1 => k_is)
    (case k1 => k_is)
    (case a2 => k_is)
    (case l2 => k_is)
    (case c2 => k_is)
    (case k2 => k_is)
    (case a3 => k_is)
    (case l3 => k_is)
    (case c3 => k_is)
    (case k3 => k_is)
    (case a4 => k_is)
    (case l4 => k_is)
    (case c4 => k_is)
    (case k4 => k_is)
    (case a5 => k_is)
    (case l5 => k_is)
    (case c5 => k_is)
    (case k5 => k_is)
    (case a6 => k_is)
    (case l6 => k_is)
    (case c6 => k_is)
    (case k6 => k_is)
    (case a7 => k_is)
    (case l7 => k_is)
    (case c7 => k_is)
    (case k7 => k_is)
    (case a8 => k_is)
    (case l8 => k_is)
    (case c8 => k_is)
    (case k8 => k_is)
    (case a9 => k_is)
    (case l9 => k_is)
    (case c9 => k_is)
    (case k9 => k_is)
    (case a10 => k_is)
    (case l10 => k_is)
    (case c10 => k_is)
    (case k10 => k_is)
    (case a11 => k_is)
    (case l11 => k_is)
    (case c11 => k_is)
    (case k11 => k_is)
    (case a12 => k_is)
    (case l12 => k_is)
    (case c12 => k_is)
    (case k12 => k_is)
    (case a13 => k_is)
    (case l13 => k_is)
    (case c13 => k_is)
    (case k13 => k_is)
    (case a14 => k_is)
    (case l14 => k_is)
    (case c14 => k_is)
    (case k14 => k_is)
    (case a15 => k_is)
    (case i15 => k_is)
    (case l15 => k_is)
    (case c15 => k_is)
    (case k15 => k_is)
    (case a16 => k_is)
    (case i16 => k_is)
    (case l16 => k_is)
    (case c16 => k_is)
    (case k16 => k_is)
    (case a17 => k_is)
    (case i17 => k_is)
    (case l17 => k_is)
    (case c17 => k_is)
    (case k17 => k_is)
    (case a18 => k_is)
    (case i18 => k_is)
    (case l18 => k_is)
    (case c18 => k_is)
    (case k18 => k_is)
    (case a19 => k_is)
    (case i19 => k_is)
    (case l19 => k_is)
    (case c19 => k_is)
    (case k19 => k_is)
    (case a20 => k_is)
    (case i20 => k_is)
    (case l20 => k_is)
    (case c20 => k_is)
    (case k20 => k_is)
    (case a21 => k_is)
    (case i21 => k_is)
    (case l21 => k_is)
    (case c21 => k_is)
    (case k21 => k_is)
    (case a22 => k_is)
    (case i22 => k_is)
    (case l22 => k_is)
    (case c22 => k_is)
    (case k22 => k_is)
    (case pgp => k_is)
    (case hdp => k_is)
    (case pop => k_is)
    (case sap => k_is)
    (case nep => k_is)
    (case obp => k_is)
    (case clp => k_is)
    (case mkp => k_is)
    (case kcp => k_is)
    (case pga => k_is)
    (case hda => k_is)
    (case poa => k_is)
    (case saa => k_is)
    (case nea => k_is)
    (case oba => k_is)
    (case cla => k_is)
    (case mka => k_is)
    (case kca => k_is)
    (case gt => k_is)
    (case no1 => k_is)
    (case no2 => k_is)
    (case no3 => k_is)
    (case no4 => k_is)
    (case tk => k_is)
    (case npp => k_is)
    (case npa => k_is)
    (case nap => k_is)
    (case naa => k_is)
    (case ekpa => rfl)
    (case ckpa => k_is)
    (case tkpa => k_is)
    (case skpa => k_is)
    (case ekap => rfl)
    (case ckap => k_is)
    (case tkap => k_is)
    (case skap => k_is)
    (case sm => k_is)
    (case fg => k_is)
    (case mn => k_is)
    (case z0 => k_is)
    (case z1 => k_is)
    (case z2 => k_is)
    (case z3 => k_is)
    (case z4 => k_is)
    (case z5 => k_is)
    (case z6 => k_is)
    (case z7 => k_is)
    (case z8 => k_is)
    (case z9 => k_is)
    (case z10 => k_is)
    (case z11 => k_is)
    (case z12 => k_is)
    (case z13 => k_is)
    (case z14 => k_is)
    (case z15 => k_is)
#print axioms PySem.Challenge.cw_storepages_k52_across_prefixes_holds
