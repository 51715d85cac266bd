import PyProof.Rows.All
import Wide.All
import OpenK.AllK
import Wide.FinOn
import HandS.ForMost
import HandS.Star
import HandS.Walk
import HandS.Zip
import HandS.Conv
import HandS.Wide
import KE.DataEq
import HandS.TupAny
import HandS.IsInst
import HandS.Style
import HandS.SortInts
import HandS.SetFor
import KE.GoesEnum
import KE.GoesZip
import KE.GoesMore
import PyProof.InstNe
import KE.OsSort
import HandS.Dict
import HandS.New0
import OpenK.KMake
import HandS.TupMul
import HandS.Strs
import HandS.DictComp
import HandS.Iter
import HandS.Steps
import PySem.Challenge.RW_storepages_k58_across_reads
set_option Elab.async false
set_option linter.all false
set_option maxRecDepth 100000
set_option maxHeartbeats 1000000
namespace Z
open PySem PySem.Spec PyProof.Rows L2

/-! ## plain data -/
/-- a list among the objects of the module -/
def SqK (K : PySem.W.Frag) (a : Addr) (xs : List V) : Prop := ∃ (o : Obj) (its : Array Value) (n : Nat), K.lookup a = some o ∧ o.cls = .type "list" ∧ o.dict = none ∧ o.data = .seq its n ∧ its.size ≤ sizeLine ∧ Vals xs its.toList
inductive D where
  | non | bl (b : Bool) | int (i : Int) | str (s : Str)
  | sq (t : Bool) (ds : List D)
  | dk (kvs : List (Key × D))
  | ob (C : Addr) (fs : List (Str × D))
  | ow (a : Addr)
  | fz (K : PySem.W.Frag) (ds : List D)

def sqO (t : Bool) (vs : List V) : HO := match t with
  | true => .tup vs
  | false => .lst vs
def isD : HO → Bool
  | .dK _ => true
  | .dT _ => true
  | _ => false

mutual
/-- the value v stands, in the frozen heap F, for the data d -/
inductive Rep (F : Hp) : V → D → Prop
  | non : Rep F .non .non
  | bl (b : Bool) : Rep F (.bl b) (.bl b)
  | int (i : Int) : Rep F (.int i) (.int i)
  | str (s : Str) : Rep F (.str s) (.str s)
  | sq {a : Addr} {t : Bool} {vs : List V} {ds : List D} : F a = some (sqO t vs) → Reps F vs ds → ds.length ≤ 100000 → Rep F (.ref a) (.sq t ds)
  | dk {a : Addr} {vs : List (Key × V)} {ds : List (Key × D)} : Rd F a (.dK vs) → RepK F vs ds → ds.length ≤ 100000 → Rep F (.ref a) (.dk ds)
  | ow (a : Addr) : Rep F (.ref a) (.ow a)
  | fz {a : Addr} {K : PySem.W.Frag} {vs : List V} {ds : List D} : ((∃ o, F a = some (.frz o (.lst vs))) ∨ SqK K a vs) → Reps F vs ds → ds.length ≤ 100000 → Rep F (.ref a) (.fz K ds)
  | ob {a C dx : Addr} {vs : List (Str × V)} {ds : List (Str × D)} : F a = some (.ins C dx vs) → RepF F vs ds → Rep F (.ref a) (.ob C ds)
inductive Reps (F : Hp) : List V → List D → Prop
  | nil : Reps F [] []
  | cons {v : V} {d : D} {vs : List V} {ds : List D} : Rep F v d → Reps F vs ds → Reps F (v :: vs) (d :: ds)
inductive RepK (F : Hp) : List (Key × V) → List (Key × D) → Prop
  | nil : RepK F [] []
  | cons {k : Key} {v : V} {d : D} {vs : List (Key × V)} {ds : List (Key × D)} : Rep F v d → RepK F vs ds → RepK F ((k, v) :: vs) ((k, d) :: ds)
inductive RepF (F : Hp) : List (Str × V) → List (Str × D) → Prop
  | nil : RepF F [] []
  | cons {k : Str} {v : V} {d : D} {vs : List (Str × V)} {ds : List (Str × D)} : Rep F v d → RepF F vs ds → RepF F ((k, v) :: vs) ((k, d) :: ds)
end

mutual
theorem Rep.mono {F F' : Hp} (e : Same F F') : ∀ {v : V} {d : D}, Rep F v d → Rep F' v d
  | _, _, .non => .non
  | _, _, .bl b => .bl b
  | _, _, .int i => .int i
  | _, _, .str s => .str s
  | _, _, .sq h r z => .sq (e _ _ h) (Reps.mono e r) z
  | _, _, .dk h r z => .dk (h.elim (fun h => .inl (e _ _ h)) fun ⟨o, h⟩ => .inr ⟨o, e _ _ h⟩) (RepK.mono e r) z
  | _, _, .ow a => .ow a
  | _, _, .fz h r z => .fz (h.imp (fun ⟨o, q⟩ => ⟨o, e _ _ q⟩) id) (Reps.mono e r) z
  | _, _, .ob h r => .ob (e _ _ h) (RepF.mono e r)
theorem Reps.mono {F F' : Hp} (e : Same F F') : ∀ {v : List V} {d : List D}, Reps F v d → Reps F' v d
  | _, _, .nil => .nil
  | _, _, .cons h r => .cons (Rep.mono e h) (Reps.mono e r)
theorem RepK.mono {F F' : Hp} (e : Same F F') : ∀ {v : List (Key × V)} {d : List (Key × D)}, RepK F v d → RepK F' v d
  | _, _, .nil => .nil
  | _, _, .cons h r => .cons (Rep.mono e h) (RepK.mono e r)
theorem RepF.mono {F F' : Hp} (e : Same F F') : ∀ {v : List (Str × V)} {d : List (Str × D)}, RepF F v d → RepF F' v d
  | _, _, .nil => .nil
  | _, _, .cons h r => .cons (Rep.mono e h) (RepF.mono e r)
end
theorem Reps.length {F : Hp} : ∀ {vs : List V} {ds : List D}, Reps F vs ds → vs.length = ds.length
  | _, _, .nil => rfl
  | _, _, .cons _ r => congrArg (· + 1) r.length
theorem Reps.get {F : Hp} : ∀ {vs : List V} {ds : List D} {i : Nat} {v : V}, Reps F vs ds → vs[i]? = some v → ∃ d, ds[i]? = some d ∧ Rep F v d
  | _, _, _, _, .nil, h => by simp at h
  | _, _, 0, v, .cons r _, h => by simp at h; subst h; exact ⟨_, rfl, r⟩
  | _, _, i + 1, v, .cons _ r, h => r.get (i := i) (by simpa using h)
theorem Reps.get' {F : Hp} : ∀ {vs : List V} {ds : List D} {i : Nat} {d : D}, Reps F vs ds → ds[i]? = some d → ∃ v, vs[i]? = some v ∧ Rep F v d
  | _, _, _, _, .nil, h => by simp at h
  | _, _, 0, v, .cons r _, h => by simp at h; subst h; exact ⟨_, rfl, r⟩
  | _, _, i + 1, v, .cons _ r, h => r.get' (i := i) (by simpa using h)
theorem Reps.append {F : Hp} : ∀ {vs ws : List V} {ds es : List D}, Reps F vs ds → Reps F ws es → Reps F (vs ++ ws) (ds ++ es)
  | _, _, _, _, .nil, s => s
  | _, _, _, _, .cons r t, s => .cons r (t.append s)
theorem Reps.snoc {F : Hp} {vs : List V} {ds : List D} {v : V} {d : D} (h : Reps F vs ds) (r : Rep F v d) : Reps F (vs ++ [v]) (ds ++ [d]) := h.append (.cons r .nil)
theorem Reps.take {F : Hp} : ∀ {vs : List V} {ds : List D} (n : Nat), Reps F vs ds → Reps F (vs.take n) (ds.take n)
  | _, _, 0, _ => by simp; exact .nil
  | _, _, n + 1, .nil => .nil
  | _, _, n + 1, .cons r t => .cons r (t.take n)
theorem Reps.drop {F : Hp} : ∀ {vs : List V} {ds : List D} (n : Nat), Reps F vs ds → Reps F (vs.drop n) (ds.drop n)
  | _, _, 0, r => r
  | _, _, n + 1, .nil => .nil
  | _, _, n + 1, .cons r t => t.drop n
theorem Reps.reverse {F : Hp} : ∀ {vs : List V} {ds : List D}, Reps F vs ds → Reps F vs.reverse ds.reverse
  | _, _, .nil => .nil
  | _, _, .cons r t => by rw [List.reverse_cons, List.reverse_cons]; exact t.reverse.snoc r
theorem Reps.set {F : Hp} : ∀ {vs : List V} {ds : List D} {v : V} {d : D} (n : Nat), Reps F vs ds → Rep F v d → Reps F (vs.set n v) (ds.set n d)
  | _, _, _, _, _, .nil, _ => .nil
  | _, _, _, _, 0, .cons _ t, r => .cons r t
  | _, _, _, _, n + 1, .cons q t, r => .cons q (t.set n r)
theorem Reps.ints {F : Hp} : ∀ {vs : List V} {ns : List Int}, Reps F vs (ns.map D.int) → vs = ns.map V.int
  | _, [], .nil => rfl
  | _, n :: ns, .cons r t => by cases r; rw [List.map_cons, t.ints]
theorem Reps.of_ints {F : Hp} : ∀ (ns : List Int), Reps F (ns.map V.int) (ns.map D.int)
  | [] => .nil
  | n :: ns => .cons (.int n) (of_ints ns)
theorem Reps.strs {F : Hp} : ∀ {vs : List V} {ns : List Str}, Reps F vs (ns.map D.str) → vs = ns.map V.str
  | _, [], .nil => rfl
  | _, n :: ns, .cons r t => by cases r; rw [List.map_cons, t.strs]
theorem Reps.of_strs {F : Hp} : ∀ (ns : List Str), Reps F (ns.map V.str) (ns.map D.str)
  | [] => .nil
  | n :: ns => .cons (.str n) (of_strs ns)
theorem Reps.bls {F : Hp} : ∀ {vs : List V} {ns : List Bool}, Reps F vs (ns.map D.bl) → vs = ns.map V.bl
  | _, [], .nil => rfl
  | _, n :: ns, .cons r t => by cases r; rw [List.map_cons, t.bls]

/-! ## worlds: F frozen, W owned, H all -/
def Sub (F H : Hp) : Prop := ∀ a o, F a = some o → H a = some o ∨ (isD o = true ∧ ∃ od, H a = some (.frz od o))
structure Wd (F W H : Hp) : Prop where
  f : Sub F H
  w : ∀ a o, W a = some o → H a = some o
  d : ∀ a o, F a = some o → W a = none
structure Go (F W H F' W' H' : Hp) : Prop where
  st : Wd F' W' H'
  ex : Same F F'
  keep : ∀ a o, H a = some o → W a = none → H' a = some o
  nF : ∀ a o, F a = none → F' a = some o → H a = none ∨ ∃ u, W a = some u
  nW : ∀ a o, W' a = some o → (∃ u, W a = some u) ∨ H a = none
theorem Sub.some {F H : Hp} (s : Sub F H) {a : Addr} {o : HO} (h : F a = some o) : ∃ u, H a = some u := by
  rcases s a o h with q | ⟨_, od, q⟩
  · exact ⟨_, q⟩
  · exact ⟨_, q⟩
theorem opt_cases {α : Type} (x : Option α) : x = none ∨ ∃ o, x = some o := by
  cases x with
  | none => exact .inl rfl
  | some o => exact .inr ⟨o, rfl⟩
theorem Go.refl {F W H : Hp} (w : Wd F W H) : Go F W H F W H := ⟨w, Same.refl F, fun _ _ h _ => h, (fun a o h q => absurd (h.symm.trans q) (by simp)), fun _ o h => Or.inl ⟨o, h⟩⟩
theorem Go.trans {F W H F1 W1 H1 F2 W2 H2 : Hp} (a : Go F W H F1 W1 H1) (b : Go F1 W1 H1 F2 W2 H2) : Go F W H F2 W2 H2 := by
  have keepW : ∀ x o, H x = some o → W x = none → W1 x = none := fun x o h hw => by
    rcases opt_cases (W1 x) with q | ⟨u, q⟩
    · exact q
    · rcases a.nW x u q with ⟨z, hz⟩ | z
      · rw [hw] at hz; cases hz
      · rw [h] at z; cases z
  refine ⟨b.st, a.ex.trans b.ex, fun x o h hw => b.keep x o (a.keep x o h hw) (keepW x o h hw), fun x o h q => ?_, fun x o q => ?_⟩
  · rcases opt_cases (F1 x) with q1 | ⟨u, q1⟩
    · rcases b.nF x o q1 q with z | ⟨u, z⟩
      · rcases opt_cases (H x) with h0 | ⟨u, h0⟩
        · exact .inl h0
        · rcases opt_cases (W x) with w0 | w0
          · rw [a.keep x u h0 w0] at z; cases z
          · exact .inr w0
      · rcases a.nW x u z with z | z
        · exact .inr z
        · exact .inl z
    · exact a.nF x u h q1
  · rcases b.nW x o q with ⟨u, z⟩ | z
    · exact a.nW x u z
    · rcases opt_cases (H x) with h0 | ⟨u, h0⟩
      · exact .inr h0
      · rcases opt_cases (W x) with w0 | w0
        · rw [a.keep x u h0 w0] at z; cases z
        · exact .inl w0
theorem Wd.mono {F F1 W H : Hp} (w : Wd F1 W H) (e : Same F F1) : Wd F W H := ⟨fun a o h => w.f a o (e a o h), w.w, fun a o h => w.d a o (e a o h)⟩
/-- over a greater frozen heap -/
theorem Go.up {F W H F' W' H' F1 : Hp} (g : Go F W H F' W' H') (e : Same F F1) (w : Wd F1 W H) : ∃ F1', Same F' F1' ∧ Go F1 W H F1' W' H' := by
  refine ⟨fun a => match F1 a with | some o => some o | none => F' a, fun a o h => ?_, ⟨fun a o h => ?_, g.st.w, fun a o h => ?_⟩, fun a o h => ?_, g.keep, fun a o h q => ?_, g.nW⟩
  · show (match F1 a with | some o => some o | none => F' a) = some o
    rcases opt_cases (F1 a) with q | ⟨u, q⟩
    · rw [q]; exact h
    · rw [q]
      rcases opt_cases (F a) with z | ⟨z, hz⟩
      · rcases g.nF a o z h with y | ⟨y, hy⟩
        · obtain ⟨x, hx⟩ := w.f.some q
          rw [y] at hx; cases hx
        · rw [w.d a u q] at hy; cases hy
      · have e1 := e a z hz
        have e2 := g.ex a z hz
        rw [q] at e1; rw [h] at e2
        cases e1; cases e2; rfl
  · have h : (match F1 a with | some o => some o | none => F' a) = some o := h
    rcases opt_cases (F1 a) with q | ⟨u, q⟩
    · rw [q] at h; exact g.st.f a o h
    · rw [q] at h; cases h
      rcases w.f a o q with z | ⟨z, od, y⟩
      · exact .inl (g.keep a o z (w.d a o q))
      · exact .inr ⟨z, od, g.keep a _ y (w.d a o q)⟩
  · have h : (match F1 a with | some o => some o | none => F' a) = some o := h
    rcases opt_cases (F1 a) with q | ⟨u, q⟩
    · rw [q] at h; exact g.st.d a o h
    · rcases opt_cases (W' a) with z | ⟨z, hz⟩
      · exact z
      · rcases g.nW a z hz with ⟨y, hy⟩ | y
        · rw [w.d a u q] at hy; cases hy
        · obtain ⟨x, hx⟩ := w.f.some q
          rw [y] at hx; cases hx
  · show (match F1 a with | some o => some o | none => F' a) = some o
    rw [h]
  · have q : (match F1 a with | some o => some o | none => F' a) = some o := q
    rw [h] at q
    refine g.nF a o ?_ q
    rcases opt_cases (F a) with z | ⟨z, hz⟩
    · exact z
    · rw [e a z hz] at h; cases h
/-- a new frozen object -/
theorem Go.new {F W H : Hp} (w : Wd F W H) {p : Addr} {o : HO} (hp : H p = none) : Go F W H (upd F p o) W (upd H p o) := by
  have fp : F p = none := by
    rcases opt_cases (F p) with z | ⟨z, hz⟩
    · exact z
    · obtain ⟨u, hu⟩ := w.f.some hz
      rw [hp] at hu; cases hu
  have wp : W p = none := by
    rcases opt_cases (W p) with z | ⟨z, hz⟩
    · exact z
    · rw [w.w p z hz] at hp; cases hp
  refine ⟨⟨fun a u h => ?_, fun a u h => ?_, fun a u h => ?_⟩, fun a u h => ?_, fun a u h _ => ?_, fun a u h q => ?_, fun a u h => .inl ⟨u, h⟩⟩
  · by_cases e : a = p
    · subst e; rw [upd_same] at h ⊢; exact .inl h
    · rw [upd_ne e] at h ⊢; exact w.f a u h
  · rw [upd_ne (ne_of_none (w.w a u h) hp)]; exact w.w a u h
  · by_cases e : a = p
    · subst e; exact wp
    · rw [upd_ne e] at h; exact w.d a u h
  · rw [upd_ne (ne_of_none h fp)]; exact h
  · rw [upd_ne (ne_of_none h hp)]; exact h
  · by_cases e : a = p
    · subst e; exact .inl hp
    · rw [upd_ne e] at q; rw [h] at q; cases q
/-- what changed nothing -/
theorem Go.frame {F W H F' H' : Hp} (g : Go F (fun _ => none) H F' (fun _ => none) H') (w : Wd F W H) : Go F W H F' W H' := by
  refine ⟨⟨g.st.f, fun a o h => g.keep a o (w.w a o h) rfl, fun a o h => ?_⟩, g.ex, fun a o h _ => g.keep a o h rfl, fun a o h q => ?_, fun a o h => .inl ⟨o, h⟩⟩
  · rcases opt_cases (F a) with z | ⟨z, hz⟩
    · rcases g.nF a o z h with y | ⟨_, y⟩
      · rcases opt_cases (W a) with x | ⟨x, hx⟩
        · exact x
        · rw [w.w a x hx] at y; cases y
      · cases y
    · exact w.d a z hz
  · rcases g.nF a o h q with y | ⟨_, y⟩
    · exact .inl y
    · cases y

/-! ## the greatest readings -/
def tmE (X : Cx) (e : Expr) : TE := fun σ H Q => ∀ pins s, Inv X pins σ H s → wpAny (model X.prog X.w) X.A (eval e X.env) (EP X pins σ Q) X.xe s
theorem pe_tm {X : Cx} {e : Expr} : PE X e (tmE X e) := ⟨fun pins s _ _ _ I h => h pins s I⟩
theorem tm_of {X : Cx} {e : Expr} {t : TE} (h : PE X e t) {σ : L2.St} {H : Hp} {Q : VK} (q : t σ H Q) : tmE X e σ H Q := fun pins s I => h.run pins s σ H Q I q
def tmT (X : Cx) (e : Expr) : TT := fun σ H Q => ∀ pins s, Inv X pins σ H s → wpAny (model X.prog X.w) X.A (isTrue e X.env (eval e X.env)) (TP X pins σ Q) X.xe s
theorem pt_tm {X : Cx} {e : Expr} : PT X e (tmT X e) := ⟨fun pins s _ _ _ I h => h pins s I⟩
theorem tmT_of {X : Cx} {e : Expr} {t : TT} (h : PT X e t) {σ : L2.St} {H : Hp} {Q : Bool → Hp → Prop} (q : t σ H Q) : tmT X e σ H Q := fun pins s I => h.run pins s σ H Q I q
def tmW (X : Cx) (e : Expr) : TT := fun σ H Q => ∀ whole pins s, Inv X pins σ H s → wpAny (model X.prog X.w) X.A (isTrue e X.env whole) (TP X pins σ Q) X.xe s
theorem pw_tm {X : Cx} {e : Expr} : PW X e (tmW X e) := ⟨fun whole pins s _ _ _ I h => h whole pins s I⟩
theorem tmW_of {X : Cx} {e : Expr} {t : TT} (h : PW X e t) {σ : L2.St} {H : Hp} {Q : Bool → Hp → Prop} (q : t σ H Q) : tmW X e σ H Q := fun whole pins s I => h.run whole pins s σ H Q I q
def tmA (X : Cx) (es : List Expr) : TA := fun σ H Q => ∀ pos pins s, Inv X pins σ H s → wpAny (model X.prog X.w) X.A (spliced (backTo pos (starEach es X.env))) (AP X pins σ Q) X.xe s
theorem pa_tm {X : Cx} {es : List Expr} : PA X es (tmA X es) := ⟨fun pos pins s _ _ _ I h => h pos pins s I⟩
theorem tmA_of {X : Cx} {es : List Expr} {t : TA} (h : PA X es t) {σ : L2.St} {H : Hp} {Q : List V → Hp → Prop} (q : t σ H Q) : tmA X es σ H Q := fun pos pins s I => h.run pos pins s σ H Q I q
def tmS (X : Cx) (st : Stmt) : TS := fun D σ H => ∀ pins s, Inv X pins σ H s → wpAny (model X.prog X.w) X.A (exec st X.env) (SP X pins D) X.xe s
theorem ps_tm {X : Cx} {st : Stmt} : PS X st (tmS X st) := ⟨fun pins s _ _ _ I h => h pins s I⟩
theorem tmS_of {X : Cx} {st : Stmt} {t : TS} (h : PS X st t) {σ : L2.St} {H : Hp} {D : Ends} (q : t D σ H) : tmS X st D σ H := fun pins s I => h.run pins s σ H D I q
def tmB (X : Cx) (st : List Stmt) : TS := fun D σ H => ∀ pins s, Inv X pins σ H s → wpAny (model X.prog X.w) X.A (execs st X.env) (SP X pins D) X.xe s
theorem pss_tm {X : Cx} {st : List Stmt} : PSs X st (tmB X st) := ⟨fun pins s _ _ _ I h => h pins s I⟩
theorem tmB_of {X : Cx} {st : List Stmt} {t : TS} (h : PSs X st t) {σ : L2.St} {H : Hp} {D : Ends} (q : t D σ H) : tmB X st D σ H := fun pins s I => h.run pins s σ H D I q
def tmI (X : Cx) (tg e : Expr) : TI := fun σ H R => ∀ pins s, Inv X pins σ H s → wpAny (model X.prog X.w) X.A (eval e X.env) (fun v s1 => wpAny (model X.prog X.w) X.A (pyIter v) (PIE X pins σ tg R) X.xe s1) X.xe s
theorem pi_tm {X : Cx} {tg e : Expr} : PI X tg e (tmI X tg e) := ⟨fun pins s _ _ _ I h => h pins s I⟩
theorem tmI_of {X : Cx} {tg e : Expr} {t : TI} (h : PI X tg e t) {σ : L2.St} {H : Hp} {R : It → Hp → Prop} (q : t σ H R) : tmI X tg e σ H R := fun pins s I => h.run pins s σ H R I q

/-! ## what an expression makes -/
def EvS (X : Cx) (e : Expr) (σ : L2.St) (F W : Hp) (d : D) (W' : Hp) : Prop :=
  ∀ H, Wd F W H → ∀ Q : VK, (∀ v F' H', Go F W H F' W' H' → Rep F' v d → Q v H') → tmE X e σ H Q
def EvT (X : Cx) (e : Expr) (σ : L2.St) (F W : Hp) (b : Bool) (W' : Hp) : Prop :=
  ∀ H, Wd F W H → ∀ Q : Bool → Hp → Prop, (∀ F' H', Go F W H F' W' H' → Q b H') → tmT X e σ H Q
def EvW (X : Cx) (e : Expr) (σ : L2.St) (F W : Hp) (b : Bool) (W' : Hp) : Prop :=
  ∀ H, Wd F W H → ∀ Q : Bool → Hp → Prop, (∀ F' H', Go F W H F' W' H' → Q b H') → tmW X e σ H Q
def EvA (X : Cx) (es : List Expr) (σ : L2.St) (F W : Hp) (ds : List D) (W' : Hp) : Prop :=
  ∀ H, Wd F W H → ∀ Q : List V → Hp → Prop, (∀ vs F' H', Go F W H F' W' H' → Reps F' vs ds → Q vs H') → tmA X es σ H Q
section
variable {X : Cx} {e a b : Expr} {es : List Expr} {σ : L2.St} {F F1 W W1 W2 W3 : Hp} {d d1 d2 : D} {ds : List D} {k : Bool} {pos : Pos}
theorem EvS.mono (h : EvS X e σ F W d W1) (ex : Same F F1) : EvS X e σ F1 W d W1 := fun H w Q q =>
  h H (w.mono ex) Q fun v F' H' g r => by
    obtain ⟨F2, e2, g2⟩ := g.up ex w
    exact q v F2 H' g2 (r.mono e2)
theorem EvT.mono (h : EvT X e σ F W k W1) (ex : Same F F1) : EvT X e σ F1 W k W1 := fun H w Q q =>
  h H (w.mono ex) Q fun F' H' g => by
    obtain ⟨F2, e2, g2⟩ := g.up ex w
    exact q F2 H' g2
theorem EvW.mono (h : EvW X e σ F W k W1) (ex : Same F F1) : EvW X e σ F1 W k W1 := fun H w Q q =>
  h H (w.mono ex) Q fun F' H' g => by
    obtain ⟨F2, e2, g2⟩ := g.up ex w
    exact q F2 H' g2
theorem EvA.mono (h : EvA X es σ F W ds W1) (ex : Same F F1) : EvA X es σ F1 W ds W1 := fun H w Q q =>
  h H (w.mono ex) Q fun v F' H' g r => by
    obtain ⟨F2, e2, g2⟩ := g.up ex w
    exact q v F2 H' g2 (r.mono e2)
/-- one more step behind what was done -/
theorem EvS.then {H F0 W0 H0 : Hp} (h : EvS X e σ F W d W1) (g0 : Go F0 W0 H0 F W H) {Q : VK} (q : ∀ v F' H', Go F W H F' W1 H' → Go F0 W0 H0 F' W1 H' → Rep F' v d → Q v H') : tmE X e σ H Q :=
  h H g0.st Q fun v F' H' g r => q v F' H' g (g0.trans g) r
theorem ev_is (h : EvS X e σ F W d W1) (q : d = d1) : EvS X e σ F W d1 W1 := by rw [← q]; exact h
theorem et_is {k' : Bool} (h : EvT X e σ F W k W1) (q : k = k') : EvT X e σ F W k' W1 := by rw [← q]; exact h
theorem ea_is {ds' : List D} (h : EvA X es σ F W ds W1) (q : ds = ds') : EvA X es σ F W ds' W1 := by rw [← q]; exact h

/-! ### names, constants -/
theorem ev_var {i : Nat} {x : Str} {v : V} (hs : σ[i]? = some (some v)) (r : Rep F v d) (hN : X.N[i]? = some x := by rfl) (hv : Vis X.env.scope x := by first | exact Or.inl rfl | exact Or.inr (Or.inl rfl) | exact Or.inr (Or.inr rfl))
    (hd : (x == ("__debug__" : Str)) = false := by decide) (hcd : (x == ("__classdict__" : Str)) = false := by decide) : EvS X (.Name x pos) σ F W d W := fun H w Q q =>
  tm_of (pe_var hN hv hd hcd) ⟨v, hs, q v F H (Go.refl w) r⟩
theorem ev_int {i j} : EvS X (.Constant (.int i) j pos) σ F W (.int i) W := fun H w Q q => tm_of pe_int (q _ F H (Go.refl w) (.int i))
theorem ev_bl {i j} : EvS X (.Constant (.bool i) j pos) σ F W (.bl i) W := fun H w Q q => tm_of pe_bl (q _ F H (Go.refl w) (.bl i))
theorem ev_non {j} : EvS X (.Constant .none j pos) σ F W .non W := fun H w Q q => tm_of pe_non (q _ F H (Go.refl w) .non)
theorem ev_str {s j} : EvS X (.Constant (.str s) j pos) σ F W (.str s) W := fun H w Q q => tm_of pe_str (q _ F H (Go.refl w) (.str s))
theorem ev_gint {x : Str} {i : Int} {t : Tok} (hg : Gl X x) (hm : X.mg x = some (.int i t)) (hd : (x == ("__debug__" : Str)) = false := by decide) : EvS X (.Name x pos) σ F W (.int i) W := fun H w Q q =>
  tm_of (pe_glob (v := .int i) hg hm ⟨t, rfl⟩ hd) (q _ F H (Go.refl w) (.int i))
theorem ev_gstr {x : Str} {i : Str} {t : Tok} (hg : Gl X x) (hm : X.mg x = some (.str i t)) (hd : (x == ("__debug__" : Str)) = false := by decide) : EvS X (.Name x pos) σ F W (.str i) W := fun H w Q q =>
  tm_of (pe_glob (v := .str i) hg hm ⟨t, rfl⟩ hd) (q _ F H (Go.refl w) (.str i))

/-! ### operators -/
/-- what a two-place operation on values makes -/
def RR (r : R2) (F W : Hp) (d1 d2 d : D) : Prop := ∀ v1 v2 F1 H1, Same F F1 → Rep F1 v1 d1 → Rep F1 v2 d2 → Wd F1 W H1 → ∀ Q : VK, (∀ v F' H', Go F1 W H1 F' W H' → Rep F' v d → Q v H') → r v1 v2 H1 Q
theorem ev_op {op : Operator} {r : R2} (ho : OpR X (binaryOp op) r) (ha : EvS X a σ F W d1 W1) (hb : EvS X b σ F W1 d2 W2) (hr : RR r F W2 d1 d2 d) : EvS X (.BinOp a op b pos) σ F W d W2 := fun H w Q q =>
  tm_of (pe_op ho pe_tm pe_tm) (ha H w _ fun v1 F1 H1 g1 r1 => (hb.mono g1.ex).then g1 fun v2 F2 H2 g2 g02 r2 =>
    hr v1 v2 F2 H2 g02.ex (r1.mono g2.ex) r2 g2.st Q fun v F' H' g r => q v F' H' (g02.trans g) r)
theorem rr_I0 {g : Int → Int → V} {i j : Int} {dd : D} (hd : ∀ F, Rep F (g i j) dd) : RR (rI0 g) F W (.int i) (.int j) dd := fun v1 v2 F1 H1 _ r1 r2 w Q q => by
  cases r1; cases r2
  exact ⟨i, j, rfl, rfl, q _ F1 H1 (Go.refl w) (hd F1)⟩
theorem rr_I {C : Int → Int → Prop} {g : Int → Int → V} {i j : Int} {dd : D} (hc : C i j) (hd : ∀ F, Rep F (g i j) dd) : RR (rI C g) F W (.int i) (.int j) dd := fun v1 v2 F1 H1 _ r1 r2 w Q q => by
  cases r1; cases r2
  exact ⟨i, j, rfl, rfl, hc, q _ F1 H1 (Go.refl w) (hd F1)⟩
variable {i j : Int}
theorem ev_add (ha : EvS X a σ F W (.int i) W1) (hb : EvS X b σ F W1 (.int j) W2) : EvS X (.BinOp a .Add b pos) σ F W (.int (i + j)) W2 := ev_op op_add ha hb (rr_I0 fun _ => .int _)
theorem ev_sub (ha : EvS X a σ F W (.int i) W1) (hb : EvS X b σ F W1 (.int j) W2) : EvS X (.BinOp a .Sub b pos) σ F W (.int (i - j)) W2 := ev_op op_sub ha hb (rr_I0 fun _ => .int _)
theorem ev_mul (ha : EvS X a σ F W (.int i) W1) (hb : EvS X b σ F W1 (.int j) W2) (hc : CMul i j) : EvS X (.BinOp a .Mult b pos) σ F W (.int (i * j)) W2 := ev_op op_mul ha hb (rr_I hc fun _ => .int _)
theorem ev_mod (ha : EvS X a σ F W (.int i) W1) (hb : EvS X b σ F W1 (.int j) W2) (hc : 0 < j) : EvS X (.BinOp a .Mod b pos) σ F W (.int (i % j)) W2 := ev_op op_mod ha hb (rr_I hc fun _ => .int _)
theorem ev_div (ha : EvS X a σ F W (.int i) W1) (hb : EvS X b σ F W1 (.int j) W2) (hc : CDiv i j) : EvS X (.BinOp a .FloorDiv b pos) σ F W (.int (i / j)) W2 := ev_op op_fdiv ha hb (rr_I hc fun _ => .int _)
theorem ev_pow (ha : EvS X a σ F W (.int i) W1) (hb : EvS X b σ F W1 (.int j) W2) (hc : CPow i j) : EvS X (.BinOp a .Pow b pos) σ F W (.int (i ^ j.toNat)) W2 := ev_op op_pow ha hb (rr_I hc fun _ => .int _)
theorem ev_neg (ha : EvS X a σ F W (.int i) W1) : EvS X (.UnaryOp .USub a pos) σ F W (.int (-i)) W1 := fun H w Q q =>
  tm_of (pe_un un_neg pe_tm) (ha H w _ fun v F1 H1 g r => by cases r; exact ⟨i, rfl, q _ F1 H1 g (.int _)⟩)
/-- lists put together -/
theorem Rep.sq_inv {v : V} {t : Bool} {ds : List D} (r : Rep F v (.sq t ds)) : ∃ a vs, v = .ref a ∧ F a = some (sqO t vs) ∧ Reps F vs ds ∧ ds.length ≤ 100000 := by
  cases r with
  | sq h r z => exact ⟨_, _, rfl, h, r, z⟩
theorem Rep.lst_inv {v : V} {ds : List D} (r : Rep F v (.sq false ds)) : ∃ a vs, v = .ref a ∧ F a = some (.lst vs) ∧ Reps F vs ds ∧ ds.length ≤ 100000 := r.sq_inv
theorem Rep.tup_inv {v : V} {ds : List D} (r : Rep F v (.sq true ds)) : ∃ a vs, v = .ref a ∧ F a = some (.tup vs) ∧ Reps F vs ds ∧ ds.length ≤ 100000 := r.sq_inv
theorem Wd.lst {H : Hp} {p : Addr} {vs : List V} (w : Wd F W H) (h : F p = some (.lst vs)) : H p = some (.lst vs) := by
  rcases w.f p _ h with q | ⟨q, _⟩
  · exact q
  · cases q
theorem Wd.tup {H : Hp} {p : Addr} {vs : List V} (w : Wd F W H) (h : F p = some (.tup vs)) : H p = some (.tup vs) := by
  rcases w.f p _ h with q | ⟨q, _⟩
  · exact q
  · cases q
theorem Wd.ins {H : Hp} {p C dx : Addr} {fs : List (Str × V)} (w : Wd F W H) (h : F p = some (.ins C dx fs)) : H p = some (.ins C dx fs) := by
  rcases w.f p _ h with q | ⟨q, _⟩
  · exact q
  · cases q
theorem Wd.rd {H : Hp} {p : Addr} {o : HO} (w : Wd F W H) (h : F p = some o) : Rd H p o := by
  rcases w.f p _ h with q | ⟨_, q⟩
  · exact .inl q
  · exact .inr q
theorem Wd.rdK {H : Hp} {p : Addr} {vs : List (Key × V)} (w : Wd F W H) (h : Rd F p (.dK vs)) : Rd H p (.dK vs) := by
  rcases h with h | ⟨o, h⟩
  · exact w.rd h
  · rcases w.f p _ h with q | ⟨q, _⟩
    · exact .inr ⟨o, q⟩
    · cases q
theorem Wd.fzl {K : PySem.W.Frag} {H : Hp} {p : Addr} {o : Obj} {vs : List V} (w : Wd F W H) (h : F p = some (.frz o (.lst vs))) : SqL K H p vs := by
  rcases w.f p _ h with q | ⟨q, _⟩
  · exact .inl (.inr ⟨o, q⟩)
  · cases q
/-- the sequence at an address, as the rules read it -/
theorem Wd.seq {K : PySem.W.Frag} {H : Hp} {p : Addr} {t : Bool} {vs : List V} (w : Wd F W H) (h : F p = some (sqO t vs)) : SqL K H p vs ∨ SqT K H p vs := by
  cases t with
  | false => exact .inl (SqL.of (w.lst h))
  | true => exact .inr (SqT.of (w.tup h))
theorem sz_ok {n : Nat} (h : n ≤ 100000) : n ≤ sizeLine := Nat.le_trans h (by decide)
theorem sz_lt {n : Nat} (h : n ≤ 100000) : n < sizeLine := Nat.lt_of_le_of_lt h (by decide)
theorem Go.rep_new {H : Hp} {p : Addr} {t : Bool} {vs : List V} {ds : List D} (w : Wd F W H) (hp : H p = none) (r : Reps F vs ds) (z : ds.length ≤ 100000) : Rep (upd F p (sqO t vs)) (.ref p) (.sq t ds) :=
  .sq upd_same (r.mono (Go.new w hp).ex) z
theorem ev_cat {xs ys : List D} (ha : EvS X a σ F W (.sq false xs) W1) (hb : EvS X b σ F W1 (.sq false ys) W2) (hz : xs.length + ys.length ≤ 100000) : EvS X (.BinOp a .Add b pos) σ F W (.sq false (xs ++ ys)) W2 :=
  ev_op op_cat ha hb fun v1 v2 F1 H1 _ r1 r2 w Q q => by
    obtain ⟨l, vs, rfl, h1, s1, z1⟩ := r1.lst_inv
    obtain ⟨l2, ws, rfl, h2, s2, z2⟩ := r2.lst_inv
    exact ⟨l, l2, vs, ws, rfl, rfl, w.lst h1, w.lst h2, by rw [s1.length, s2.length]; exact sz_ok hz, fun p hp => q _ _ _ (Go.new w hp) (Go.rep_new (t := false) w hp (s1.append s2) (by rw [List.length_append]; exact hz))⟩
theorem ev_catT {xs ys : List D} (ha : EvS X a σ F W (.sq true xs) W1) (hb : EvS X b σ F W1 (.sq true ys) W2) (hne : xs ≠ []) (hz : xs.length + ys.length ≤ 100000) : EvS X (.BinOp a .Add b pos) σ F W (.sq true (xs ++ ys)) W2 :=
  ev_op op_catT ha hb fun v1 v2 F1 H1 _ r1 r2 w Q q => by
    obtain ⟨l, vs, rfl, h1, s1, z1⟩ := id r1.tup_inv
    obtain ⟨l2, ws, rfl, h2, s2, z2⟩ := r2.tup_inv
    refine ⟨l, l2, vs, ws, rfl, rfl, SqT.of (w.tup h1), SqT.of (w.tup h2), fun e => hne ?_, by rw [s1.length, s2.length]; exact sz_ok hz, fun e => ?_, fun _ p hp => q _ _ _ (Go.new w hp) (Go.rep_new (t := true) w hp (s1.append s2) (by rw [List.length_append]; exact hz))⟩
    · subst e; cases s1; rfl
    · subst e; cases s2
      exact q _ _ _ (Go.refl w) (by rw [List.append_nil]; exact r1)
theorem Reps.rep (k : Nat) {vs : List V} {ds : List D} (r : Reps F vs ds) : Reps F (List.replicate k vs).flatten (List.replicate k ds).flatten := by
  induction k with
  | zero => exact .nil
  | succ k ih => rw [List.replicate_succ, List.replicate_succ, List.flatten_cons, List.flatten_cons]; exact r.append ih
theorem ev_rep {xs : List D} {k : Int} (ha : EvS X a σ F W (.sq false xs) W1) (hb : EvS X b σ F W1 (.int k) W2) (hk : k ≤ 100000) (hz : xs.length * k.toNat ≤ 100000) (h0 : -100000 ≤ k) : EvS X (.BinOp a .Mult b pos) σ F W (.sq false (List.replicate k.toNat xs).flatten) W2 :=
  ev_op op_rep ha hb fun v1 v2 F1 H1 _ r1 r2 w Q q => by
    obtain ⟨l, vs, rfl, h1, s1, z1⟩ := r1.lst_inv
    cases r2
    refine ⟨l, k, vs, rfl, rfl, w.lst h1, by omega, by omega, by rw [s1.length]; exact sz_ok hz, fun p hp => q _ _ _ (Go.new w hp) (Go.rep_new (t := false) w hp (s1.rep k.toNat) ?_)⟩
    have := (s1.rep k.toNat).length
    rw [← this]
    simp only [List.length_flatten, List.map_replicate, List.sum_replicate_nat, s1.length]
    rw [Nat.mul_comm]; exact hz
end
end Z
set_option Elab.async false
set_option linter.all false
set_option maxRecDepth 100000
set_option maxHeartbeats 1000000
namespace Z
open PySem PySem.Spec PyProof.Rows L2
section
variable {X : Cx} {e a b c : Expr} {es : List Expr} {σ : L2.St} {F F1 W W1 W2 W3 : Hp} {d d1 d2 d3 : D} {ds : List D} {k k1 k2 : Bool} {pos : Pos} {i j : Int}
/-! ### tests -/
theorem EvT.then {H F0 W0 H0 : Hp} (h : EvT X e σ F W k W1) (g0 : Go F0 W0 H0 F W H) {Q : Bool → Hp → Prop} (q : ∀ F' H', Go F W H F' W1 H' → Go F0 W0 H0 F' W1 H' → Q k H') : tmT X e σ H Q :=
  h H g0.st Q fun F' H' g => q F' H' g (g0.trans g)
theorem et_val (h : EvS X e σ F W (.bl k) W1) (he : ∀ whole, isTrue e X.env whole = (do let v ← whole; standAt e.pos; holding [v] (truthy v)) := by intro _; rfl) : EvT X e σ F W k W1 := fun H w Q q =>
  tmT_of (pt_val pe_tm he) (h H w _ fun v F' H' g r => by cases r; exact ⟨k, rfl, q F' H' g⟩)
theorem ev_cmp {op : CmpOp} {r : R2} (ho : OpR X (compareOp op) r) (ha : EvS X a σ F W d1 W1) (hb : EvS X b σ F W1 d2 W2) (hr : RR r F W2 d1 d2 (.bl k)) (hm : behindInMarks op b = false) : EvS X (.Compare a [op] [b] pos) σ F W (.bl k) W2 := fun H w Q q =>
  tm_of (pe_cmpR ho pe_tm pe_tm hm) (ha H w _ fun v1 F1 H1 g1 r1 => (hb.mono g1.ex).then g1 fun v2 F2 H2 g2 g02 r2 =>
    hr v1 v2 F2 H2 g02.ex (r1.mono g2.ex) r2 g2.st Q fun v F' H' g r => q v F' H' (g02.trans g) r)
theorem et_cmp {op : CmpOp} {r : R2} (ho : OpR X (compareOp op) r) (ha : EvS X a σ F W d1 W1) (hb : EvS X b σ F W1 d2 W2) (hr : RR r F W2 d1 d2 (.bl k)) (hm : behindInMarks op b = false) : EvT X (.Compare a [op] [b] pos) σ F W k W2 := fun H w Q q =>
  tmT_of (pt_cmpR ho pe_tm pe_tm hm) (ha H w _ fun v1 F1 H1 g1 r1 => (hb.mono g1.ex).then g1 fun v2 F2 H2 g2 g02 r2 =>
    hr v1 v2 F2 H2 g02.ex (r1.mono g2.ex) r2 g2.st _ fun v F' H' g r => by cases r; exact ⟨k, rfl, q F' H' (g02.trans g)⟩)
/-- a comparison's rule for what the two sides are -/
structure CmpR (X : Cx) (op : CmpOp) (F W : Hp) (d1 d2 : D) (k : Bool) : Prop where
  ex : ∃ r, OpR X (compareOp op) r ∧ RR r F W d1 d2 (.bl k)
theorem ev_cm {op : CmpOp} (ha : EvS X a σ F W d1 W1) (hb : EvS X b σ F W1 d2 W2) (hr : CmpR X op F W2 d1 d2 k) (hm : behindInMarks op b = false := by first | exact nomark _ | rfl) : EvS X (.Compare a [op] [b] pos) σ F W (.bl k) W2 :=
  let ⟨_, ho, h⟩ := hr.ex; ev_cmp ho ha hb h hm
theorem et_cm {op : CmpOp} (ha : EvS X a σ F W d1 W1) (hb : EvS X b σ F W1 d2 W2) (hr : CmpR X op F W2 d1 d2 k) (hm : behindInMarks op b = false := by first | exact nomark _ | rfl) : EvT X (.Compare a [op] [b] pos) σ F W k W2 :=
  let ⟨_, ho, h⟩ := hr.ex; et_cmp ho ha hb h hm
theorem CmpR.is (h : CmpR X op F W d1 d2 k) (e : k = k1) : CmpR X op F W d1 d2 k1 := by rw [← e]; exact h
theorem cm_lt : CmpR X .Lt F W (.int i) (.int j) (decide (i < j)) := ⟨_, op_lt, rr_I0 fun _ => .bl _⟩
theorem cm_le : CmpR X .LtE F W (.int i) (.int j) (decide (i ≤ j)) := ⟨_, op_le, rr_I0 fun _ => .bl _⟩
theorem cm_gt : CmpR X .Gt F W (.int i) (.int j) (decide (j < i)) := ⟨_, op_gt, rr_I0 fun _ => .bl _⟩
theorem cm_ge : CmpR X .GtE F W (.int i) (.int j) (decide (j ≤ i)) := ⟨_, op_ge, rr_I0 fun _ => .bl _⟩
theorem cm_isN (hr : ∀ F v, Rep F v d1 → decide (v = .non) = k) : CmpR X .Is F W d1 .non k := ⟨_, op_isN, fun v1 v2 F1 H1 _ r1 r2 w Q q => by
  cases r2; exact ⟨rfl, by rw [hr F1 v1 r1]; exact q _ F1 H1 (Go.refl w) (.bl _)⟩⟩
theorem cm_notN (hr : ∀ F v, Rep F v d1 → decide (v = .non) = k) : CmpR X .IsNot F W d1 .non (!k) := ⟨_, op_notN, fun v1 v2 F1 H1 _ r1 r2 w Q q => by
  cases r2; exact ⟨rfl, by rw [hr F1 v1 r1]; exact q _ F1 H1 (Go.refl w) (.bl _)⟩⟩
def D.isN : D → Bool
  | .non => true
  | _ => false
theorem rep_isN {F : Hp} {v : V} {d : D} (r : Rep F v d) : decide (v = .non) = d.isN := by cases r <;> rfl
theorem cm_is : CmpR X .Is F W d1 .non d1.isN := cm_isN fun _ _ r => rep_isN r
theorem cm_isnot : CmpR X .IsNot F W d1 .non (!d1.isN) := cm_notN fun _ _ r => rep_isN r

/-! ### == of plain data -/
end
mutual
def D.pd : D → PyData
  | .non => .none
  | .bl b => .bool b
  | .int i => .int i
  | .str s => .str s
  | .sq false ds => .list (D.pds ds)
  | .sq true ds => .tuple (D.pds ds)
  | .dk _ => .none
  | .ob _ _ => .none
  | .ow _ => .none
  | .fz _ ds => .list (D.pds ds)
def D.pds : List D → List PyData
  | [] => []
  | d :: ds => D.pd d :: D.pds ds
end
mutual
/-- neither a dict nor an instance lies within -/
def D.pl : D → Bool
  | .non => true
  | .bl _ => true
  | .int _ => true
  | .str _ => true
  | .sq _ ds => D.pls ds
  | .dk _ => false
  | .ob _ _ => false
  | .ow _ => false
  | .fz _ _ => false
def D.pls : List D → Bool
  | [] => true
  | d :: ds => D.pl d && D.pls ds
end
mutual
theorem D.pl_plain : ∀ d : D, d.pl = true → d.pd.plain = true
  | .non, _ => rfl
  | .bl _, _ => rfl
  | .int _, _ => rfl
  | .str _, _ => rfl
  | .sq false ds, h => by simp only [D.pd, PyData.plain]; exact D.pls_plain ds (by simpa [D.pl] using h)
  | .sq true ds, h => by simp only [D.pd, PyData.plain]; exact D.pls_plain ds (by simpa [D.pl] using h)
  | .dk _, h => by simp [D.pl] at h
  | .ob _ _, h => by simp [D.pl] at h
  | .ow _, h => by simp [D.pl] at h
  | .fz _ ds, h => by simp [D.pl] at h
theorem D.pls_plain : ∀ ds : List D, D.pls ds = true → PyData.plainAll (D.pds ds) = true
  | [], _ => rfl
  | d :: ds, h => by
    simp only [D.pls, Bool.and_eq_true] at h
    simp only [D.pds, PyData.plainAll, Bool.and_eq_true]
    exact ⟨D.pl_plain d h.1, D.pls_plain ds h.2⟩
end
mutual
theorem Rep.dp {K : PySem.W.Frag} {F W H : Hp} (w : Wd F W H) : ∀ {v : V} {d : D}, Rep F v d → d.pl = true → Dp K H v d.pd
  | _, _, .non, h => .non
  | _, _, .bl b, h => .bl b
  | _, _, .int i, h => .int i
  | _, _, .str s, h => .str s
  | _, _, .sq (t := false) (ds := ds) q r z, h => .lst (SqL.of (w.lst q)) (Reps.dp w r h)
  | _, _, .sq (t := true) (ds := ds) q r z, h => .tup (SqT.of (w.tup q)) (Reps.dp w r h)
  | _, _, .dk _ _ _, h => by simp [D.pl] at h
  | _, _, .ob _ _, h => by simp [D.pl] at h
  | _, _, .ow _, h => by simp [D.pl] at h
  | _, _, .fz (ds := ds) q r z, h => by simp [D.pl] at h
theorem Reps.dp {K : PySem.W.Frag} {F W H : Hp} (w : Wd F W H) : ∀ {v : List V} {d : List D}, Reps F v d → D.pls d = true → DpAll K H v (D.pds d)
  | _, _, .nil, _ => .nil
  | _, _, .cons (d := d) (ds := ds) r t, h => by
    simp only [D.pls, Bool.and_eq_true] at h
    exact .cons (Rep.dp w r h.1) (Reps.dp w t h.2)
end
def D.eqv (a b : D) : Bool := PyData.eqv a.pd b.pd
def D.dep (a : D) : Nat := a.pd.depth
/-- == tells this data apart as Lean's = does -/
structure Lw {α : Type} [DecidableEq α] (f : α → D) (n : Nat) : Prop where
  pl : ∀ x, (f x).pl = true
  dep : ∀ x, (f x).dep ≤ n
  eq : ∀ x y, (f x).eqv (f y) = decide (x = y)
theorem D.pds_map (ds : List D) : D.pds ds = ds.map D.pd := by
  induction ds with
  | nil => rfl
  | cons d ds ih => simp only [D.pds, List.map_cons, ih]
theorem D.pls_all (ds : List D) : D.pls ds = ds.all D.pl := by
  induction ds with
  | nil => rfl
  | cons d ds ih => simp only [D.pls, List.all_cons, ih]
theorem depthAll_le {n : Nat} : ∀ (ds : List PyData), (∀ d ∈ ds, d.depth ≤ n) → PyData.depthAll ds ≤ n
  | [], _ => Nat.zero_le _
  | d :: ds, h => by
    simp only [PyData.depthAll]
    exact Nat.max_le.mpr ⟨h d List.mem_cons_self, depthAll_le ds fun x hx => h x (List.mem_cons_of_mem _ hx)⟩
section
variable {α β γ : Type} [DecidableEq α] [DecidableEq β] [DecidableEq γ] {f : α → D} {g : β → D} {h : γ → D} {n m l : Nat}
theorem Lw.mono (a : Lw f n) (h : n ≤ m) : Lw f m := ⟨a.pl, fun x => Nat.le_trans (a.dep x) h, a.eq⟩
theorem lw_int : Lw D.int 0 := ⟨fun _ => rfl, fun _ => Nat.le_refl _, fun x y => by
  show (x == y) = _
  rw [Bool.eq_iff_iff]; simp⟩
theorem lw_bl : Lw D.bl 0 := ⟨fun _ => rfl, fun _ => Nat.le_refl _, fun x y => by
  show (x == y) = _
  rw [Bool.eq_iff_iff]; simp⟩
theorem lw_str : Lw D.str 0 := ⟨fun _ => rfl, fun _ => Nat.le_refl _, fun x y => by
  show (x == y) = _
  rw [Bool.eq_iff_iff]; simp⟩
/-- rows -/
def eR (t : Bool) (f : α → D) (xs : List α) : D := .sq t (xs.map f)
theorem Lw.eqvAll (a : Lw f n) : ∀ xs ys : List α, PyData.eqvAll (D.pds (xs.map f)) (D.pds (ys.map f)) = decide (xs = ys)
  | [], [] => by simp [D.pds, PyData.eqvAll]
  | [], y :: ys => by simp [D.pds, PyData.eqvAll]
  | x :: xs, [] => by simp [D.pds, PyData.eqvAll]
  | x :: xs, y :: ys => by
    have e1 : PyData.eqv (f x).pd (f y).pd = decide (x = y) := a.eq x y
    simp only [List.map_cons, D.pds, PyData.eqvAll, a.eqvAll xs ys, e1]
    rw [Bool.eq_iff_iff]; simp
theorem Lw.row {t : Bool} (a : Lw f n) : Lw (eR t f) (n + 1) := by
  refine ⟨fun xs => ?_, fun xs => ?_, fun xs ys => ?_⟩
  · show D.pls (xs.map f) = true
    rw [D.pls_all]
    simp only [List.all_map, List.all_eq_true]
    exact fun x _ => a.pl x
  · have : PyData.depthAll (D.pds (xs.map f)) ≤ n := depthAll_le _ fun d hd => by
      rw [D.pds_map, List.map_map] at hd
      obtain ⟨x, _, rfl⟩ := List.mem_map.mp hd
      exact a.dep x
    cases t <;> (show PyData.depthAll (D.pds (xs.map f)) + 1 ≤ n + 1; omega)
  · cases t <;> exact a.eqvAll xs ys
/-- pairs, triples as tuples -/
def eP (f : α → D) (g : β → D) (p : α × β) : D := .sq true [f p.1, g p.2]
def eP3 (f : α → D) (g : β → D) (h : γ → D) (p : α × β × γ) : D := .sq true [f p.1, g p.2.1, h p.2.2]
theorem Lw.pair (a : Lw f n) (b : Lw g n) : Lw (eP f g) (n + 1) := by
  refine ⟨fun p => ?_, fun p => ?_, fun p q => ?_⟩
  · show ((f p.1).pl && ((g p.2).pl && true)) = true
    rw [a.pl, b.pl]; rfl
  · have h1 := a.dep p.1
    have h2 := b.dep p.2
    show max (f p.1).dep (max (g p.2).dep 0) + 1 ≤ n + 1
    omega
  · show ((f p.1).eqv (f q.1) && ((g p.2).eqv (g q.2) && true)) = _
    rw [a.eq, b.eq, Bool.eq_iff_iff]
    simp [Prod.ext_iff]
theorem Lw.triple (a : Lw f n) (b : Lw g n) (c : Lw h n) : Lw (eP3 f g h) (n + 1) := by
  refine ⟨fun p => ?_, fun p => ?_, fun p q => ?_⟩
  · show ((f p.1).pl && ((g p.2.1).pl && ((h p.2.2).pl && true))) = true
    rw [a.pl, b.pl, c.pl]; rfl
  · have h1 := a.dep p.1
    have h2 := b.dep p.2.1
    have h3 := c.dep p.2.2
    show max (f p.1).dep (max (g p.2.1).dep (max (h p.2.2).dep 0)) + 1 ≤ n + 1
    omega
  · show ((f p.1).eqv (f q.1) && ((g p.2.1).eqv (g q.2.1) && ((h p.2.2).eqv (h q.2.2) && true))) = _
    rw [a.eq, b.eq, c.eq, Bool.eq_iff_iff]
    simp [Prod.ext_iff]
/-- None, or something else -/
def eO (f : α → D) : Option α → D
  | none => .non
  | some x => f x
theorem Lw.opt (a : Lw f n) (hn : ∀ x, (f x).eqv .non = false) (hn' : ∀ x, D.non.eqv (f x) = false) : Lw (eO f) n := by
  refine ⟨fun x => ?_, fun x => ?_, fun x y => ?_⟩
  · cases x with
    | none => rfl
    | some x => exact a.pl x
  · cases x with
    | none => exact Nat.zero_le _
    | some x => exact a.dep x
  · cases x with
    | none =>
      cases y with
      | none => show D.eqv .non .non = _; simp [D.eqv, D.pd, PyData.eqv]
      | some y => show D.non.eqv (f y) = _; rw [hn']; simp
    | some x =>
      cases y with
      | none => show (f x).eqv .non = _; rw [hn]; simp
      | some y => show (f x).eqv (f y) = _; rw [a.eq]; simp
end
section
variable {X : Cx} {e a b c : Expr} {σ : L2.St} {F F1 W W1 W2 W3 : Hp} {d d1 d2 d3 : D} {ds : List D} {q q1 q2 : Bool} {pos : Pos} {i j : Int} {k : Nat}
def rPlain (K : PySem.W.Frag) (neg : Bool) : R2 := fun x y H Q => ∃ d e, Dp K H x d ∧ Dp K H y e ∧ d.plain = true ∧ e.plain = true ∧ d.depth ≤ 60 ∧ Q (.bl (if neg then !PyData.eqv d e else PyData.eqv d e)) H
theorem op_eqP (hr : Room k X.A) : OpR X (compareOp .Eq) (rPlain X.K false) := by
  intro pins s σ H x y v u Q I rx ry h
  obtain ⟨d, e, hd, he, sd, se, hz, q⟩ := h
  obtain ⟨as, r1⟩ := Dp.reads I d x v hd rx
  obtain ⟨bs, r2⟩ := Dp.reads I e y u he ry
  have := hr.units
  exact SeqAt.eq_plain r1 r2 sd se (by omega) ⟨.bl _, H, I, rfl, q⟩
theorem op_neP (hr : Room k X.A) : OpR X (compareOp .NotEq) (rPlain X.K true) := by
  intro pins s σ H x y v u Q I rx ry h
  obtain ⟨d, e, hd, he, sd, se, hz, q⟩ := h
  obtain ⟨as, r1⟩ := Dp.reads I d x v hd rx
  obtain ⟨bs, r2⟩ := Dp.reads I e y u he ry
  have := hr.units
  exact SeqAt.ne_plain r1 r2 sd se (by omega) ⟨.bl _, H, I, rfl, q⟩
def rInP (K : PySem.W.Frag) (neg : Bool) : R2 := fun x y H Q => ∃ d es, Dp K H x d ∧ (Dp K H y (.list es) ∨ Dp K H y (.tuple es)) ∧ d.plain = true ∧ PyData.plainAll es = true ∧ d.depth ≤ 60 ∧
  Q (.bl (if neg then !es.any (fun y => PyData.eqv y d) else es.any fun y => PyData.eqv y d)) H
theorem op_inP (hr : Room k X.A) : OpR X (compareOp .In) (rInP X.K false) := by
  intro pins s σ H x y v u Q I rx ry h
  obtain ⟨d, es, hd, he, sd, se, hz, q⟩ := h
  obtain ⟨as, r1⟩ := Dp.reads I d x v hd rx
  have := hr.units
  rcases he with he | he
  · obtain ⟨bs, r2⟩ := Dp.reads I _ y u he ry
    exact SeqAt.in_list_data r2 r1 se sd (by omega) ⟨.bl _, H, I, rfl, q⟩
  · obtain ⟨bs, r2⟩ := Dp.reads I _ y u he ry
    exact SeqAt.in_tuple_data r2 r1 se sd (by omega) ⟨.bl _, H, I, rfl, q⟩
theorem op_niP (hr : Room k X.A) : OpR X (compareOp .NotIn) (rInP X.K true) := by
  intro pins s σ H x y v u Q I rx ry h
  obtain ⟨d, es, hd, he, sd, se, hz, q⟩ := h
  obtain ⟨as, r1⟩ := Dp.reads I d x v hd rx
  have := hr.units
  rcases he with he | he
  · obtain ⟨bs, r2⟩ := Dp.reads I _ y u he ry
    exact SeqAt.notIn_list_data r2 r1 se sd (by omega) ⟨.bl _, H, I, rfl, q⟩
  · obtain ⟨bs, r2⟩ := Dp.reads I _ y u he ry
    exact SeqAt.notIn_tuple_data r2 r1 se sd (by omega) ⟨.bl _, H, I, rfl, q⟩
theorem cm_eqD (hr : Room k X.A) (h1 : d1.pl = true) (h2 : d2.pl = true) (hz : d1.dep ≤ 60) : CmpR X .Eq F W d1 d2 (d1.eqv d2) :=
  ⟨_, op_eqP hr, fun v1 v2 F1 H1 _ r1 r2 w Q k => ⟨_, _, r1.dp w h1, r2.dp w h2, D.pl_plain _ h1, D.pl_plain _ h2, hz, k _ F1 H1 (Go.refl w) (.bl _)⟩⟩
theorem cm_neD (hr : Room k X.A) (h1 : d1.pl = true) (h2 : d2.pl = true) (hz : d1.dep ≤ 60) : CmpR X .NotEq F W d1 d2 (!d1.eqv d2) :=
  ⟨_, op_neP hr, fun v1 v2 F1 H1 _ r1 r2 w Q k => ⟨_, _, r1.dp w h1, r2.dp w h2, D.pl_plain _ h1, D.pl_plain _ h2, hz, k _ F1 H1 (Go.refl w) (.bl _)⟩⟩
theorem cm_inD {t : Bool} (hr : Room k X.A) (h1 : d1.pl = true) (h2 : D.pls ds = true) (hz : d1.dep ≤ 60) : CmpR X .In F W d1 (.sq t ds) (ds.any fun y => y.eqv d1) :=
  ⟨_, op_inP hr, fun v1 v2 F1 H1 _ r1 r2 w Q k => ⟨d1.pd, D.pds ds, r1.dp w h1, by
    cases t with
    | false => exact .inl (r2.dp w h2)
    | true => exact .inr (r2.dp w h2), D.pl_plain _ h1, D.pls_plain _ h2, hz, by
      have e : ((D.pds ds).any fun y => PyData.eqv y d1.pd) = ds.any fun y => y.eqv d1 := by rw [D.pds_map, List.any_map]; rfl
      rw [e]
      exact k _ F1 H1 (Go.refl w) (.bl _)⟩⟩
theorem cm_niD {t : Bool} (hr : Room k X.A) (h1 : d1.pl = true) (h2 : D.pls ds = true) (hz : d1.dep ≤ 60) : CmpR X .NotIn F W d1 (.sq t ds) (!ds.any fun y => y.eqv d1) :=
  ⟨_, op_niP hr, fun v1 v2 F1 H1 _ r1 r2 w Q k => ⟨d1.pd, D.pds ds, r1.dp w h1, by
    cases t with
    | false => exact .inl (r2.dp w h2)
    | true => exact .inr (r2.dp w h2), D.pl_plain _ h1, D.pls_plain _ h2, hz, by
      have e : ((D.pds ds).any fun y => PyData.eqv y d1.pd) = ds.any fun y => y.eqv d1 := by rw [D.pds_map, List.any_map]; rfl
      rw [e]
      exact k _ F1 H1 (Go.refl w) (.bl _)⟩⟩
section
variable {α : Type} [DecidableEq α] {f : α → D} {n : Nat} {x y : α} {xs : List α} {t : Bool}
theorem cm_eq (hr : Room k X.A) (l : Lw f n) (hn : n ≤ 60 := by decide) : CmpR X .Eq F W (f x) (f y) (decide (x = y)) := (cm_eqD hr (l.pl x) (l.pl y) (Nat.le_trans (l.dep x) hn)).is (l.eq x y)
theorem cm_ne (hr : Room k X.A) (l : Lw f n) (hn : n ≤ 60 := by decide) : CmpR X .NotEq F W (f x) (f y) (!decide (x = y)) := (cm_neD hr (l.pl x) (l.pl y) (Nat.le_trans (l.dep x) hn)).is (congrArg not (l.eq x y))
theorem Lw.any (l : Lw f n) : ((xs.map f).any fun y => y.eqv (f x)) = decide (x ∈ xs) := by
  rw [List.any_map, Bool.eq_iff_iff, List.any_eq_true, decide_eq_true_iff]
  constructor
  · rintro ⟨y, hy, e⟩
    have e : (f y).eqv (f x) = true := e
    rw [l.eq, decide_eq_true_iff] at e
    exact e ▸ hy
  · exact fun h => ⟨x, h, by show (f x).eqv (f x) = true; rw [l.eq]; simp⟩
theorem Lw.pls (l : Lw f n) : D.pls (xs.map f) = true := by
  rw [D.pls_all]
  simp only [List.all_map, List.all_eq_true]
  exact fun x _ => l.pl x
theorem cm_in (hr : Room k X.A) (l : Lw f n) (hn : n ≤ 60 := by decide) : CmpR X .In F W (f x) (eR t f xs) (decide (x ∈ xs)) := (cm_inD hr (l.pl x) l.pls (Nat.le_trans (l.dep x) hn)).is l.any
theorem cm_ni (hr : Room k X.A) (l : Lw f n) (hn : n ≤ 60 := by decide) : CmpR X .NotIn F W (f x) (eR t f xs) (!decide (x ∈ xs)) := (cm_niD hr (l.pl x) l.pls (Nat.le_trans (l.dep x) hn)).is (congrArg not l.any)
end

/-! ### and, or, not, if -/
theorem et_not (ha : EvT X a σ F W q W1) : EvT X (.UnaryOp .Not a pos) σ F W (!q) W1 := fun H w Q k => tmT_of (pt_not pt_tm) (ha H w _ fun F' H' g => k F' H' g)
theorem ew_and1 (ha : EvT X a σ F W q W1) : EvW X (.BoolOp .And [a] pos) σ F W q W1 := fun H w Q k => tmW_of (pw_and1 pt_tm) (ha H w _ fun F' H' g => k F' H' g)
theorem ew_or1 (ha : EvT X a σ F W q W1) : EvW X (.BoolOp .Or [a] pos) σ F W q W1 := fun H w Q k => tmW_of (pw_or1 pt_tm) (ha H w _ fun F' H' g => k F' H' g)
theorem ew_and {es : List Expr} (ha : EvT X a σ F W q1 W1) (hb : q1 = true → EvW X (.BoolOp .And (b :: es) pos) σ F W1 q2 W1) : EvW X (.BoolOp .And (a :: b :: es) pos) σ F W (q1 && q2) W1 := fun H w Q k =>
  tmW_of (pw_and pt_tm pw_tm) (ha H w _ fun F' H' g => by
    cases q1 with
    | true => rw [if_pos rfl]; exact ((hb rfl).mono g.ex) H' g.st _ fun F2 H2 g2 => k F2 H2 (g.trans g2)
    | false => rw [if_neg Bool.false_ne_true]; exact k F' H' g)
theorem ew_or {es : List Expr} (ha : EvT X a σ F W q1 W1) (hb : q1 = false → EvW X (.BoolOp .Or (b :: es) pos) σ F W1 q2 W1) : EvW X (.BoolOp .Or (a :: b :: es) pos) σ F W (q1 || q2) W1 := fun H w Q k =>
  tmW_of (pw_or pt_tm pw_tm) (ha H w _ fun F' H' g => by
    cases q1 with
    | true => rw [if_pos rfl]; exact k F' H' g
    | false => rw [if_neg Bool.false_ne_true]; exact ((hb rfl).mono g.ex) H' g.st _ fun F2 H2 g2 => k F2 H2 (g.trans g2))
theorem et_w (h : EvW X e σ F W q W1) : EvT X e σ F W q W1 := fun H w Q k => tmT_of pw_tm.pt (h H w Q k)
theorem ev_not (ha : EvS X a σ F W (.bl q) W1) : EvS X (.UnaryOp .Not a pos) σ F W (.bl (!q)) W1 := fun H w Q k => tm_of (pe_not pe_tm) (ha H w _ fun v F' H' g r => by
  cases r; exact ⟨q, rfl, k _ F' H' g (.bl _)⟩)
theorem ev_bop1 {op : BoolOp} (ha : EvS X a σ F W d W1) : EvS X (.BoolOp op [a] pos) σ F W d W1 := fun H w Q k => tm_of (pe_one pe_tm) (ha H w Q k)
theorem ev_and {es : List Expr} (ha : EvS X a σ F W (.bl q1) W1) (hb : q1 = true → EvS X (.BoolOp .And (b :: es) pos) σ F W1 (.bl q2) W1) : EvS X (.BoolOp .And (a :: b :: es) pos) σ F W (.bl (q1 && q2)) W1 := fun H w Q k =>
  tm_of (pe_and pe_tm pe_tm) (ha H w _ fun v F' H' g r => by
    cases r
    refine ⟨q1, rfl, ?_⟩
    cases q1 with
    | true => rw [if_pos rfl]; exact ((hb rfl).mono g.ex).then g fun v F2 H2 _ g2 r2 => k v F2 H2 g2 r2
    | false => rw [if_neg Bool.false_ne_true]; exact k _ F' H' g (.bl _))
theorem ev_or {es : List Expr} (ha : EvS X a σ F W (.bl q1) W1) (hb : q1 = false → EvS X (.BoolOp .Or (b :: es) pos) σ F W1 (.bl q2) W1) : EvS X (.BoolOp .Or (a :: b :: es) pos) σ F W (.bl (q1 || q2)) W1 := fun H w Q k =>
  tm_of (pe_or pe_tm pe_tm) (ha H w _ fun v F' H' g r => by
    cases r
    refine ⟨q1, rfl, ?_⟩
    cases q1 with
    | true => rw [if_pos rfl]; exact k _ F' H' g (.bl _)
    | false => rw [if_neg Bool.false_ne_true]; exact ((hb rfl).mono g.ex).then g fun v F2 H2 _ g2 r2 => k v F2 H2 g2 r2)
/-- both ways of one sort -/
theorem ev_if {α : Type} {f : α → D} {x y : α} (hc : EvT X c σ F W q W1) (ha : q = true → EvS X a σ F W1 (f x) W1) (hb : q = false → EvS X b σ F W1 (f y) W1) : EvS X (.IfExp c a b pos) σ F W (f (if q = true then x else y)) W1 := fun H w Q k =>
  tm_of (pe_ifExp pt_tm pe_tm pe_tm) (hc H w _ fun F' H' g => by
    cases q with
    | true => rw [if_pos rfl]; exact ((ha rfl).mono g.ex).then g fun v F2 H2 _ g2 r2 => k v F2 H2 g2 (by rw [if_pos rfl]; exact r2)
    | false => rw [if_neg Bool.false_ne_true]; exact ((hb rfl).mono g.ex).then g fun v F2 H2 _ g2 r2 => k v F2 H2 g2 (by rw [if_neg Bool.false_ne_true]; exact r2))
/-- with draws within: the world behind is told by the way -/
theorem ev_ifW {Wa Wb : Hp} {α : Type} {f : α → D} {x y : α} (hc : EvT X c σ F W q W1) (ha : q = true → EvS X a σ F W1 (f x) Wa) (hb : q = false → EvS X b σ F W1 (f y) Wb) : EvS X (.IfExp c a b pos) σ F W (f (if q = true then x else y)) (if q = true then Wa else Wb) := fun H w Q k =>
  tm_of (pe_ifExp pt_tm pe_tm pe_tm) (hc H w _ fun F' H' g => by
    cases q with
    | true => rw [if_pos rfl]; exact ((ha rfl).mono g.ex).then g fun v F2 H2 _ g2 r2 => k v F2 H2 g2 (by rw [if_pos rfl]; exact r2)
    | false => rw [if_neg Bool.false_ne_true]; exact ((hb rfl).mono g.ex).then g fun v F2 H2 _ g2 r2 => k v F2 H2 g2 (by rw [if_neg Bool.false_ne_true]; exact r2))
end
end Z
set_option Elab.async false
set_option linter.all false
set_option maxRecDepth 100000
set_option maxHeartbeats 1000000
namespace Z
open PySem PySem.Spec PyProof.Rows L2
section
variable {X : Cx} {e a b c : Expr} {es : List Expr} {σ : L2.St} {F F1 W W1 W2 W3 : Hp} {d d1 d2 d3 : D} {ds : List D} {q q1 q2 : Bool} {pos p : Pos} {i j : Int} {k : Nat}
/-! ### arguments, displays -/
theorem ea_nil : EvA X [] σ F W [] W := fun H w Q q => tmA_of pa_nil (q _ F H (Go.refl w) .nil)
theorem ea_cons (ha : EvS X e σ F W d W1) (hr : EvA X es σ F W1 ds W2) (hs : starEach (e :: es) X.env = (false, eval e X.env) :: starEach es X.env := by rfl) : EvA X (e :: es) σ F W (d :: ds) W2 := fun H w Q q =>
  tmA_of (pa_cons pe_tm pa_tm hs) (ha H w _ fun v F1 H1 g r => hr.mono g.ex H1 g.st _ fun vs F2 H2 g2 r2 => q (v :: vs) F2 H2 (g.trans g2) (.cons (r.mono g2.ex) r2))
theorem ea_star {t : Bool} {d1 : List D} (ha : EvS X e σ F W (.sq t d1) W1) (hr : EvA X es σ F W1 ds W2) (hs : starEach (.Starred e p :: es) X.env = (true, eval e X.env) :: starEach es X.env := by rfl) : EvA X (.Starred e p :: es) σ F W (d1 ++ ds) W2 := fun H w Q q =>
  tmA_of (StX.pa_star pe_tm pa_tm hs) (ha H w _ fun v F1 H1 g r => by
    obtain ⟨l, vs, rfl, h1, s1, z1⟩ := r.sq_inv
    refine ⟨l, vs, rfl, (g.st.seq h1).symm, hr.mono g.ex H1 g.st _ fun ws F2 H2 g2 r2 => q (vs ++ ws) F2 H2 (g.trans g2) ((s1.mono g2.ex).append r2)⟩)
theorem ev_tup {x1} (h : EvA X es σ F W ds W1) (hz : ds.length ≤ 100000) : EvS X (.Tuple es x1 pos) σ F W (.sq true ds) W1 := fun H w Q q =>
  tm_of (pe_tup pa_tm) (h H w _ fun vs F1 H1 g r => ⟨by rw [r.length]; exact sz_ok hz, fun p hp => q _ _ _ (g.trans (Go.new g.st hp)) (Go.rep_new (t := true) g.st hp r hz)⟩)
theorem ev_lst (h : EvA X es σ F W ds W1) (hz : ds.length ≤ 100000) : EvS X (.List es pos) σ F W (.sq false ds) W1 := fun H w Q q =>
  tm_of (pe_lst pa_tm) (h H w _ fun vs F1 H1 g r => ⟨by rw [r.length]; exact sz_ok hz, fun p hp => q _ _ _ (g.trans (Go.new g.st hp)) (Go.rep_new (t := false) g.st hp r hz)⟩)

/-! ### built-ins called -/
structure CalR (X : Cx) (f : Value) (F W : Hp) (ds : List D) (d : D) : Prop where
  ex : ∃ r, CallR X f r ∧ ∀ vs F1 H1, Same F F1 → Reps F1 vs ds → Wd F1 W H1 → ∀ Q : VK, (∀ v F' H', Go F1 W H1 F' W H' → Rep F' v d → Q v H') → r vs H1 Q
theorem ev_blt {x : Str} {id : String} (hm : X.mg x = none) (hc : CalR X (.builtin id) F W1 ds d) (ha : EvA X (e :: es) σ F W ds W1) (hv : bootBuiltins x = some (.builtin id)) (hg : Gl X x := by rfl) (hn : x ≠ "__name__" := by decide) (hdb : (x == ("__debug__" : Str)) = false := by decide)
    (he : starEach (e :: es) X.env = (false, eval e X.env) :: starEach es X.env := by rfl) (hpl : (backTo pos (starEach es X.env)).any (·.1) = false := by rfl) : EvS X (.Call (.Name x p) (e :: es) [] pos) σ F W d W1 := fun H w Q q => by
  obtain ⟨r, hr, h⟩ := hc.ex
  exact tm_of (pe_callB hr hg hm hv pa_tm hn hdb he hpl) (ha H w _ fun vs F1 H1 g s => h vs F1 H1 g.ex s g.st Q fun v F' H' g2 r2 => q v F' H' (g.trans g2) r2)
theorem ev_bty {x : Str} {T : String} (hm : X.mg x = none) (hc : CalR X (.type T) F W1 ds d) (ha : EvA X (e :: es) σ F W ds W1) (hv : bootBuiltins x = some (.type T)) (hg : Gl X x := by rfl) (hn : x ≠ "__name__" := by decide) (hdb : (x == ("__debug__" : Str)) = false := by decide)
    (he : starEach (e :: es) X.env = (false, eval e X.env) :: starEach es X.env := by rfl) (hpl : (backTo pos (starEach es X.env)).any (·.1) = false := by rfl) : EvS X (.Call (.Name x p) (e :: es) [] pos) σ F W d W1 := fun H w Q q => by
  obtain ⟨r, hr, h⟩ := hc.ex
  exact tm_of (pe_callTy hr hg hm hv pa_tm hn hdb he hpl) (ha H w _ fun vs F1 H1 g s => h vs F1 H1 g.ex s g.st Q fun v F' H' g2 r2 => q v F' H' (g.trans g2) r2)
theorem CalR.is {f : Value} (h : CalR X f F W ds d) (e : d = d1) : CalR X f F W ds d1 := by rw [← e]; exact h
theorem cl_len {t : Bool} {xs : List D} : CalR X (.builtin "len") F W [.sq t xs] (.int xs.length) := ⟨_, call_len_seq, fun vs F1 H1 _ r w Q q => by
  cases r with
  | cons r t =>
    cases t
    obtain ⟨l, us, rfl, h1, s1, z1⟩ := r.sq_inv
    exact ⟨l, us, rfl, w.seq h1, by rw [s1.length]; exact q _ F1 H1 (Go.refl w) (.int _)⟩⟩
theorem cl_lenS {s : Str} (hs : s.length ≤ sizeLine) : CalR X (.builtin "len") F W [.str s] (.int s.length) := ⟨_, call_len_str, fun vs F1 H1 _ r w Q q => by
  cases r with
  | cons r t =>
    cases t
    cases r
    exact ⟨s, rfl, hs, q _ F1 H1 (Go.refl w) (.int _)⟩⟩
theorem cl_int : CalR X (.type "int") F W [.int i] (.int i) := ⟨_, call_int1, fun vs F1 H1 _ r w Q q => by
  cases r with
  | cons r t =>
    cases t
    cases r
    exact .inl ⟨i, rfl, q _ F1 H1 (Go.refl w) (.int _)⟩⟩
theorem cl_bool : CalR X (.type "bool") F W [.bl q] (.bl q) := ⟨_, call_bool1, fun vs F1 H1 _ r w Q k => by
  cases r with
  | cons r t =>
    cases t
    cases r
    exact .inr ⟨q, rfl, k _ F1 H1 (Go.refl w) (.bl _)⟩⟩
theorem cl_list {t : Bool} {xs : List D} : CalR X (.type "list") F W [.sq t xs] (.sq false xs) := ⟨_, call_list_of, fun vs F1 H1 _ r w Q q => by
  cases r with
  | cons r t =>
    cases t
    obtain ⟨l, us, rfl, h1, s1, z1⟩ := r.sq_inv
    exact ⟨l, us, rfl, w.seq h1, fun p hp => q _ _ _ (Go.new w hp) (Go.rep_new (t := false) w hp s1 z1)⟩⟩
theorem cl_tuple {t : Bool} {xs : List D} : CalR X (.type "tuple") F W [.sq t xs] (.sq true xs) := ⟨_, call_tuple_of, fun vs F1 H1 _ r w Q q => by
  cases r with
  | cons r t =>
    cases t
    cases t with
    | false =>
      obtain ⟨l, us, rfl, h1, s1, z1⟩ := r.lst_inv
      exact ⟨l, us, rfl, .inl ⟨SqL.of (w.lst h1), fun p hp => q _ _ _ (Go.new w hp) (Go.rep_new (t := true) w hp s1 z1)⟩⟩
    | true =>
      obtain ⟨l, us, rfl, h1, s1, z1⟩ := id r.tup_inv
      exact ⟨l, us, rfl, .inr ⟨SqT.of (w.tup h1), q _ _ _ (Go.refl w) r⟩⟩⟩
theorem rep_ints {t : Bool} {v : V} {ns : List Int} (r : Rep F v (eR t D.int ns)) : ∃ a, v = .ref a ∧ F a = some (sqO t (ns.map V.int)) ∧ ns.length ≤ 100000 := by
  obtain ⟨l, us, rfl, h1, s1, z1⟩ := r.sq_inv
  rw [s1.ints] at h1
  exact ⟨l, rfl, h1, by simpa using z1⟩
theorem cl_sum {ns : List Int} (hc : X.calm = true := by rfl) : CalR X (.builtin "sum") F W [eR false D.int ns] (.int ns.sum) := ⟨_, cr_sum hc, fun vs F1 H1 _ r w Q q => by
  cases r with
  | cons r t =>
    cases t
    obtain ⟨l, rfl, h1, z⟩ := rep_ints r
    exact ⟨l, ns, rfl, SqL.of (w.lst h1), q _ F1 H1 (Go.refl w) (.int _)⟩⟩
/-- the greatest, the least -/
def maxL (ns : List Int) : Int := ns.tail.foldl (fun a b => if b > a then b else a) (ns.headD 0)
def minL (ns : List Int) : Int := ns.tail.foldl (fun a b => if b < a then b else a) (ns.headD 0)
theorem maxL_of {ns : List Int} {m : Int} (hm : m ∈ ns) (hle : ∀ y ∈ ns, y ≤ m) : maxL ns = m := by
  have key : ∀ (l : List Int) (a : Int), (a = m ∨ m ∈ l) → a ≤ m → (∀ y ∈ l, y ≤ m) → l.foldl (fun a b => if b > a then b else a) a = m := by
    intro l
    induction l with
    | nil => intro a h _ _; rcases h with h | h; exact h; cases h
    | cons x l ih =>
      intro a h ha hl
      rw [List.foldl_cons]
      have hx := hl x List.mem_cons_self
      refine ih _ ?_ ?_ fun y hy => hl y (List.mem_cons_of_mem _ hy)
      · by_cases hxa : x > a
        · rw [if_pos hxa]
          rcases h with h | h
          · omega
          · rcases List.mem_cons.mp h with e | e
            · exact .inl e.symm
            · exact .inr e
        · rw [if_neg hxa]
          rcases h with h | h
          · exact .inl h
          · rcases List.mem_cons.mp h with e | e
            · left; omega
            · exact .inr e
      · by_cases hxa : x > a
        · rw [if_pos hxa]; exact hx
        · rw [if_neg hxa]; exact ha
  cases ns with
  | nil => cases hm
  | cons x l =>
    refine key l x ?_ (hle x List.mem_cons_self) fun y hy => hle y (List.mem_cons_of_mem _ hy)
    rcases List.mem_cons.mp hm with e | e
    · exact .inl e.symm
    · exact .inr e
theorem minL_of {ns : List Int} {m : Int} (hm : m ∈ ns) (hle : ∀ y ∈ ns, m ≤ y) : minL ns = m := by
  have key : ∀ (l : List Int) (a : Int), (a = m ∨ m ∈ l) → m ≤ a → (∀ y ∈ l, m ≤ y) → l.foldl (fun a b => if b < a then b else a) a = m := by
    intro l
    induction l with
    | nil => intro a h _ _; rcases h with h | h; exact h; cases h
    | cons x l ih =>
      intro a h ha hl
      rw [List.foldl_cons]
      have hx := hl x List.mem_cons_self
      refine ih _ ?_ ?_ fun y hy => hl y (List.mem_cons_of_mem _ hy)
      · by_cases hxa : x < a
        · rw [if_pos hxa]
          rcases h with h | h
          · omega
          · rcases List.mem_cons.mp h with e | e
            · exact .inl e.symm
            · exact .inr e
        · rw [if_neg hxa]
          rcases h with h | h
          · exact .inl h
          · rcases List.mem_cons.mp h with e | e
            · left; omega
            · exact .inr e
      · by_cases hxa : x < a
        · rw [if_pos hxa]; exact hx
        · rw [if_neg hxa]; exact ha
  cases ns with
  | nil => cases hm
  | cons x l =>
    refine key l x ?_ (hle x List.mem_cons_self) fun y hy => hle y (List.mem_cons_of_mem _ hy)
    rcases List.mem_cons.mp hm with e | e
    · exact .inl e.symm
    · exact .inr e
theorem cl_max {ns : List Int} (h0 : ns ≠ []) (hc : X.calm = true := by rfl) : CalR X (.builtin "max") F W [eR false D.int ns] (.int (maxL ns)) := ⟨_, cr_max hc, fun vs F1 H1 _ r w Q q => by
  cases r with
  | cons r t =>
    cases t
    obtain ⟨l, rfl, h1, z⟩ := rep_ints r
    exact ⟨l, ns, rfl, SqL.of (w.lst h1), List.length_pos_iff.mpr h0, fun m hm hle => by rw [← maxL_of hm hle]; exact q _ F1 H1 (Go.refl w) (.int _)⟩⟩
theorem cl_min {ns : List Int} (h0 : ns ≠ []) (hc : X.calm = true := by rfl) : CalR X (.builtin "min") F W [eR false D.int ns] (.int (minL ns)) := ⟨_, cr_min hc, fun vs F1 H1 _ r w Q q => by
  cases r with
  | cons r t =>
    cases t
    obtain ⟨l, rfl, h1, z⟩ := rep_ints r
    exact ⟨l, ns, rfl, SqL.of (w.lst h1), List.length_pos_iff.mpr h0, fun m hm hle => by rw [← minL_of hm hle]; exact q _ F1 H1 (Go.refl w) (.int _)⟩⟩
theorem cl_max2 (hc : X.calm = true := by rfl) : CalR X (.builtin "max") F W [.int i, .int j] (.int (if j > i then j else i)) := ⟨_, call_max2 hc, fun vs F1 H1 _ r w Q q => by
  cases r with
  | cons r t =>
    cases t with
    | cons r2 t =>
      cases t; cases r; cases r2
      exact ⟨i, j, rfl, q _ F1 H1 (Go.refl w) (.int _)⟩⟩
theorem cl_min2 (hc : X.calm = true := by rfl) : CalR X (.builtin "min") F W [.int i, .int j] (.int (if j < i then j else i)) := ⟨_, call_min2 hc, fun vs F1 H1 _ r w Q q => by
  cases r with
  | cons r t =>
    cases t with
    | cons r2 t =>
      cases t; cases r; cases r2
      exact ⟨i, j, rfl, q _ F1 H1 (Go.refl w) (.int _)⟩⟩
theorem rep_bls {t : Bool} {v : V} {ns : List Bool} (r : Rep F v (eR t D.bl ns)) : ∃ a, v = .ref a ∧ F a = some (sqO t (ns.map V.bl)) ∧ ns.length ≤ 100000 := by
  obtain ⟨l, us, rfl, h1, s1, z1⟩ := r.sq_inv
  rw [s1.bls] at h1
  exact ⟨l, rfl, h1, by simpa using z1⟩
theorem cl_all {ns : List Bool} (hc : X.calm = true := by rfl) : CalR X (.builtin "all") F W [eR false D.bl ns] (.bl (ns.all id)) := ⟨_, cr_all hc, fun vs F1 H1 _ r w Q q => by
  cases r with
  | cons r t =>
    cases t
    obtain ⟨l, rfl, h1, z⟩ := rep_bls r
    exact ⟨l, ns, rfl, SqL.of (w.lst h1), q _ F1 H1 (Go.refl w) (.bl _)⟩⟩
theorem cl_any {ns : List Bool} (hc : X.calm = true := by rfl) : CalR X (.builtin "any") F W [eR false D.bl ns] (.bl (ns.any id)) := ⟨_, cr_any hc, fun vs F1 H1 _ r w Q q => by
  cases r with
  | cons r t =>
    cases t
    obtain ⟨l, rfl, h1, z⟩ := rep_bls r
    exact ⟨l, ns, rfl, SqL.of (w.lst h1), q _ F1 H1 (Go.refl w) (.bl _)⟩⟩

/-! ### isinstance -/
def D.ty : D → Option String
  | .non => some "NoneType"
  | .bl _ => some "bool"
  | .int _ => some "int"
  | .str _ => some "str"
  | .sq false _ => some "list"
  | .sq true _ => some "tuple"
  | .dk _ => some "dict"
  | .ob _ _ => none
  | .ow _ => none
  | .fz _ _ => none
theorem Rep.tyx {K : PySem.W.Frag} {H : Hp} {v : V} {T : String} (w : Wd F W H) (r : Rep F v d) (h : d.ty = some T) : TyX K H v (.type T) := by
  cases r with
  | non => cases h; exact .base .non
  | bl b => cases h; exact .base (.bl b)
  | int i => cases h; exact .base (.int i)
  | str s => cases h; exact .base (.str s)
  | @sq a t vs ds q s z =>
    cases t with
    | false => cases h; exact .base (.lst (w.lst q))
    | true => cases h; exact .base (.tup (w.tup q))
  | dk q s z =>
    cases h
    rcases w.rdK q with q | ⟨o, q⟩
    · exact .base (.dK q)
    · exact .fDict q
  | ob q s => cases h
  | ow a => cases h
  | fz q s z => cases h
theorem ev_isi {T U : String} {y : Str} {p2 : Pos} (hm : X.mg "isinstance" = none) (hm2 : X.mg y = none) (ha : EvS X e σ F W d W1) (hd : d.ty = some T) (hk : kitB T U = some q) (hv2 : bootBuiltins y = some (.type U)) (hg : Gl X "isinstance" := by rfl) (hg2 : Gl X y := by rfl)
    (hn : y ≠ "__name__" := by decide) (hdb : (y == ("__debug__" : Str)) = false := by decide) (he : starEach [e, .Name y p2] X.env = (false, eval e X.env) :: starEach [.Name y p2] X.env := by rfl) (hpl : (backTo pos (starEach [.Name y p2] X.env)).any (·.1) = false := by rfl) :
    EvS X (.Call (.Name "isinstance" p) [e, .Name y p2] [] pos) σ F W (.bl q) W1 := fun H w Q k =>
  tm_of (pe_callB call_isi hg hm (by decide +kernel) (pa_cons pe_tm (pa_cons (pe_bltn (v := .ty U) hg2 hm2 hv2 rfl hn hdb) pa_nil) he) (by decide) (by decide) he hpl) (ha H w _ fun v F1 H1 g r =>
    ⟨v, .ty U, .type T, .type U, q, rfl, .ty U, r.tyx g.st hd, kit_ty hk, k _ F1 H1 g (.bl _)⟩)
theorem ev_isi2 {T U U2 : String} {y y2 : Str} {p2 p3 : Pos} {k3 p4} {q q2 : Bool} (hm : X.mg "isinstance" = none) (hm2 : X.mg y = none) (hm3 : X.mg y2 = none) (ha : EvS X e σ F W d W1) (hd : d.ty = some T) (hk : kitB T U = some q) (hk2 : kitB T U2 = some q2) (hv2 : bootBuiltins y = some (.type U)) (hv3 : bootBuiltins y2 = some (.type U2)) (hg : Gl X "isinstance" := by rfl) (hg2 : Gl X y := by rfl) (hg3 : Gl X y2 := by rfl)
    (hn : y ≠ "__name__" := by decide) (hdb : (y == ("__debug__" : Str)) = false := by decide) (hn2 : y2 ≠ "__name__" := by decide) (hdb2 : (y2 == ("__debug__" : Str)) = false := by decide) (he : starEach [e, .Tuple [.Name y p2, .Name y2 p3] k3 p4] X.env = (false, eval e X.env) :: starEach [.Tuple [.Name y p2, .Name y2 p3] k3 p4] X.env := by rfl) (hpl : (backTo pos (starEach [.Tuple [.Name y p2, .Name y2 p3] k3 p4] X.env)).any (·.1) = false := by rfl) :
    EvS X (.Call (.Name "isinstance" p) [e, .Tuple [.Name y p2, .Name y2 p3] k3 p4] [] pos) σ F W (.bl (q || q2)) W1 := fun H w Q k =>
  tm_of (pe_callB call_isiT hg hm (by decide +kernel) (pa_cons pe_tm (pa_cons (pe_tup (pa_cons (pe_bltn (v := .ty U) hg2 hm2 hv2 rfl hn hdb) (pa_cons (pe_bltn (v := .ty U2) hg3 hm3 hv3 rfl hn2 hdb2) pa_nil))) pa_nil) he) (by decide) (by decide) he hpl) (ha H w _ fun v F1 H1 g r =>
    ⟨by show 2 ≤ sizeLine; decide, fun t ht => ⟨v, t, [.ty U, .ty U2], .type T, [.type U, .type U2], q || q2, rfl, upd_same, .cons (.ty U) (.cons (.ty U2) .nil), (r.mono (Go.new (o := .tup [.ty U, .ty U2]) g.st ht).ex).tyx (Go.new g.st ht).st hd, by
      refine kitAny_cons (kit_ty hk) (fun h => ?_) (fun h => by rw [h]; rfl)
      subst h
      refine kitAny_cons (kit_ty hk2) (fun h => ?_) (fun h => by rw [h]; rfl)
      subst h
      exact kitAny_nil, k _ _ _ (g.trans (Go.new g.st ht)) (.bl _)⟩⟩)

/-! ### subscripts -/
theorem atI_rep {F : Hp} {vs : List V} {ds : List D} {i : Int} {d : D} (r : Reps F vs ds) (h : atI ds i = some d) : ∃ v, atI vs i = some v ∧ Rep F v d := by
  unfold atI at h ⊢
  rw [r.length]
  cases e : ixN ds.length i with
  | none => rw [e] at h; cases h
  | some j =>
    rw [e] at h
    exact r.get' h
theorem atI_map {α β : Type} {f : α → β} {xs : List α} {i : Int} {x : α} (h : atI xs i = some x) : atI (xs.map f) i = some (f x) := by
  unfold atI at h ⊢
  rw [List.length_map]
  cases e : ixN xs.length i with
  | none => rw [e] at h; cases h
  | some j =>
    rw [e] at h
    show (xs.map f)[j]? = some (f x)
    have h : xs[j]? = some x := h
    rw [List.getElem?_map, h]; rfl
theorem ixR_sq {t : Bool} : IxR X (fun x y H Q => ∃ p vs i v, x = .ref p ∧ y = .int i ∧ (match t with | true => SqT X.K H p vs | false => SqL X.K H p vs) ∧ atI vs i = some v ∧ Q v H) := by
  cases t with
  | true => exact ix_tup
  | false => exact ix_list
theorem ev_ixD {t : Bool} {xs : List D} (ha : EvS X a σ F W (.sq t xs) W1) (hb : EvS X b σ F W1 (.int i) W2) (hx : atI xs i = some d) (hs : ∀ v i, subscripted b false v i = operate [v, i] (getItem v i) := by intro _ _; rfl) : EvS X (.Subscript a b pos) σ F W d W2 := fun H w Q q =>
  tm_of (pe_ix (ixR_sq (t := t)) pe_tm pe_tm hs) (ha H w _ fun v F1 H1 g r => (hb.mono g.ex).then g fun v2 F2 H2 g2 g02 r2 => by
    obtain ⟨l, us, rfl, h1, s1, z1⟩ := (r.mono g2.ex).sq_inv
    cases r2
    obtain ⟨v, hv, rv⟩ := atI_rep s1 hx
    refine ⟨l, us, i, v, rfl, rfl, ?_, hv, q v F2 H2 g02 rv⟩
    cases t with
    | true => exact SqT.of (g02.st.tup h1)
    | false => exact SqL.of (g02.st.lst h1))
theorem ev_ix {α : Type} {f : α → D} {xs : List α} {t : Bool} {x : α} (ha : EvS X a σ F W (eR t f xs) W1) (hb : EvS X b σ F W1 (.int i) W2) (hx : atI xs i = some x) (hs : ∀ v i, subscripted b false v i = operate [v, i] (getItem v i) := by intro _ _; rfl) : EvS X (.Subscript a b pos) σ F W (f x) W2 :=
  ev_ixD ha hb (atI_map hx) hs

/-! ### slices -/
def cutL {α : Type} (xs : List α) (lo hi : Option Int) : List α := (xs.drop (HT.sIx xs.length 0 lo)).take (HT.sIx xs.length xs.length hi - HT.sIx xs.length 0 lo)
theorem Reps.cut {F : Hp} {vs : List V} {ds : List D} (r : Reps F vs ds) (lo hi : Option Int) : Reps F (cutV vs lo hi) (cutL ds lo hi) := by
  unfold cutV cutL
  rw [r.length]
  exact (r.drop _).take _
theorem cutL_map {α β : Type} (f : α → β) (xs : List α) (lo hi : Option Int) : cutL (xs.map f) lo hi = (cutL xs lo hi).map f := by
  unfold cutL
  rw [List.length_map, List.map_take, List.map_drop]
theorem cutL_len {α : Type} (xs : List α) (lo hi : Option Int) : (cutL xs lo hi).length ≤ xs.length := by
  unfold cutL
  rw [List.length_take, List.length_drop]; omega
def tmO (X : Cx) (o : Option Expr) : TO := match o with
  | none => tNoPart
  | some e => tPart (tmE X e)
theorem po_tm {o : Option Expr} : PO X o (tmO X o) := match o with
  | none => po_none
  | some e => po_some pe_tm
def EvO (X : Cx) (o : Option Expr) (σ : L2.St) (F W : Hp) (r : Option Int) (W' : Hp) : Prop := match o, r with
  | none, none => W' = W
  | some e, some i => EvS X e σ F W (.int i) W'
  | _, _ => False
theorem EvO.run {o : Option Expr} {r : Option Int} {H F0 W0 H0 : Hp} {Q : Option Int → Hp → Prop} (h : EvO X o σ F W r W1) (ex : Same F F1) (w : Wd F1 W H) (q : ∀ F' H', Go F1 W H F' W1 H' → Q r H') : tmO X o σ H Q := by
  cases o with
  | none =>
    cases r with
    | none => have h : W1 = W := h; subst h; exact q F1 H (Go.refl w)
    | some i => exact False.elim h
  | some e =>
    cases r with
    | none => exact False.elim h
    | some i =>
      have h : EvS X e σ F W (.int i) W1 := h
      exact h.mono ex H w _ fun v F' H' g r => by cases r; exact ⟨i, rfl, q F' H' g⟩
theorem eo_none : EvO X none σ F W none W := rfl
theorem eo_some (h : EvS X e σ F W (.int i) W1) : EvO X (some e) σ F W (some i) W1 := h
theorem ev_sl {α : Type} {f : α → D} {xs : List α} {t : Bool} {lo hi : Option Expr} {l u : Option Int} {p2 : Pos} (ha : EvS X a σ F W (eR t f xs) W1) (hl : EvO X lo σ F W1 l W2) (hh : EvO X hi σ F W2 u W3) : EvS X (.Subscript a (.Slice lo hi none p2) pos) σ F W (eR t f (cutL xs l u)) W3 := fun H w Q q => by
  cases t with
  | false =>
    refine tm_of (pe_slice sl_list pe_tm po_tm po_tm) (ha H w _ fun v F1 H1 g r => hl.run (F0 := F) (W0 := W) (H0 := H) g.ex g.st fun F2 H2 g2 => hh.run (F0 := F) (W0 := W) (H0 := H) (g.trans g2).ex g2.st fun F3 H3 g3 => ?_)
    obtain ⟨l, us, rfl, h1, s1, z1⟩ := (r.mono (g2.trans g3).ex).lst_inv
    refine ⟨l, us, rfl, SqL.of (g3.st.lst h1), fun p hp => q _ _ _ ((g.trans (g2.trans g3)).trans (Go.new g3.st hp)) ?_⟩
    unfold eR
    rw [← cutL_map]
    exact Go.rep_new (t := false) g3.st hp (s1.cut _ _) (Nat.le_trans (cutL_len _ _ _) z1)
  | true =>
    refine tm_of (pe_slice sl_tupA pe_tm po_tm po_tm) (ha H w _ fun v F1 H1 g r => hl.run (F0 := F) (W0 := W) (H0 := H) g.ex g.st fun F2 H2 g2 => hh.run (F0 := F) (W0 := W) (H0 := H) (g.trans g2).ex g2.st fun F3 H3 g3 => ?_)
    have r3 := r.mono (g2.trans g3).ex
    obtain ⟨l, us, rfl, h1, s1, z1⟩ := id r3.tup_inv
    refine ⟨l, us, rfl, SqT.of (g3.st.tup h1), fun hw => q _ _ _ (g.trans (g2.trans g3)) ?_, fun _ p hp => q _ _ _ ((g.trans (g2.trans g3)).trans (Go.new g3.st hp)) ?_⟩
    · unfold eR
      rw [← cutL_map]
      unfold cutL
      rw [s1.length] at hw
      rw [hw.1, hw.2]
      have e : ((xs.map f).drop 0).take ((xs.map f).length - 0) = xs.map f := by rw [List.drop_zero, List.take_of_length_le (by simp)]
      rw [e]; exact r3
    · unfold eR
      rw [← cutL_map]
      exact Go.rep_new (t := true) g3.st hp (s1.cut _ _) (Nat.le_trans (cutL_len _ _ _) z1)
theorem ev_rev {α : Type} {f : α → D} {xs : List α} {k1 : Nat} {p1 p2 p3 : Pos} (ha : EvS X a σ F W (eR false f xs) W1) : EvS X (.Subscript a (.Slice none none (some (.UnaryOp .USub (.Constant (.int 1) k1 p1) p2)) p3) pos) σ F W (eR false f xs.reverse) W1 := fun H w Q q =>
  tm_of (pe_revL pe_tm) (ha H w _ fun v F1 H1 g r => by
    obtain ⟨l, us, rfl, h1, s1, z1⟩ := r.lst_inv
    refine ⟨l, us, rfl, SqL.of (g.st.lst h1), fun p hp => q _ _ _ (g.trans (Go.new g.st hp)) ?_⟩
    unfold eR
    rw [List.map_reverse]
    exact Go.rep_new (t := false) g.st hp s1.reverse (by rw [List.length_reverse]; exact z1))
end
end Z
set_option Elab.async false
set_option linter.all false
set_option maxRecDepth 100000
set_option maxHeartbeats 1000000
namespace Z
open PySem PySem.Spec PyProof.Rows L2
/-! ## targets -/
def tmG (X : Cx) (tg : Expr) : TG := fun v σ H Q => ∀ pins s u, Inv X pins σ H s → RelV v u → wpAny (model X.prog X.w) X.A (assign tg X.env u) (fun _ s' => ∃ σ' H', Inv X pins σ' H' s' ∧ Q σ' H') X.xe s
theorem pg_tm {X : Cx} {tg : Expr} : PG X tg (tmG X tg) := ⟨fun pins s σ H v u Q I r h => h pins s u I r⟩
theorem tmG_of {X : Cx} {tg : Expr} {t : TG} (h : PG X tg t) {v : V} {σ : L2.St} {H : Hp} {Q : L2.St → Hp → Prop} (q : t v σ H Q) : tmG X tg v σ H Q := fun pins s u I r => h.run pins s σ H v u Q I r q
def tmGs (X : Cx) (ts : List Expr) : TGs := fun vs σ H Q => ∀ pins s us, Inv X pins σ H s → Vals vs us → wpAny (model X.prog X.w) X.A (assignInOrder ((assignEach ts X.env).map (·.2)) us) (fun _ s' => ∃ σ' H', Inv X pins σ' H' s' ∧ Q σ' H') X.xe s
theorem pgs_tm {X : Cx} {ts : List Expr} : PGs X ts (tmGs X ts) := ⟨fun pins s σ H vs us Q I r h => h pins s us I r⟩
theorem tmGs_of {X : Cx} {ts : List Expr} {t : TGs} (h : PGs X ts t) {vs : List V} {σ : L2.St} {H : Hp} {Q : L2.St → Hp → Prop} (q : t vs σ H Q) : tmGs X ts vs σ H Q := fun pins s us I r => h.run pins s σ H vs us Q I r q
def TgT (X : Cx) (tg : Expr) (v : V) (σ : L2.St) (F W : Hp) (K : L2.St → Prop) : Prop := ∀ H, Wd F W H → ∀ Q : L2.St → Hp → Prop, (∀ σ2, K σ2 → Q σ2 H) → tmG X tg v σ H Q
def TgTs (X : Cx) (ts : List Expr) (vs : List V) (σ : L2.St) (F W : Hp) (K : L2.St → Prop) : Prop := ∀ H, Wd F W H → ∀ Q : L2.St → Hp → Prop, (∀ σ2, K σ2 → Q σ2 H) → tmGs X ts vs σ H Q
section
variable {X : Cx} {v : V} {vs : List V} {σ : L2.St} {F W : Hp} {K : L2.St → Prop} {pos : Pos} {e : Expr} {es : List Expr} {ds : List D}
theorem tg_name {i : Nat} {x : Str} (h : K (σ.set i (some v))) (hi : X.N[i]? = some x := by rfl) (hN : X.N.Nodup := by first | assumption | decide +kernel) (hx : Loc X.env.scope x := by first | exact Or.inl rfl | exact Or.inr rfl)
    (hf : X.fn x = true ∨ X.env.scope.names.lookup x = some .local := by first | exact .inl rfl | exact .inr rfl) : TgT X (.Name x pos) v σ F W K := fun H w Q q => tmG_of (pg_name hN hi hx hf) (q _ h)
theorem tgs_nil (h : K σ) : TgTs X [] [] σ F W K := fun H w Q q => tmGs_of pgs_nil ⟨rfl, q _ h⟩
theorem tgs_cons (h : TgT X e v σ F W fun σ2 => TgTs X es vs σ2 F W K) (hs : (assignEach (e :: es) X.env).map (·.2) = assign e X.env :: (assignEach es X.env).map (·.2) := by rfl) : TgTs X (e :: es) (v :: vs) σ F W K := fun H w Q q =>
  tmGs_of (pgs_cons pg_tm pgs_tm hs) ⟨v, vs, rfl, h H w _ fun σ2 k => k H w Q q⟩
theorem tg_tup {x1 : Nat} (r : Rep F v (.sq true ds)) (h : ∀ vs, Reps F vs ds → TgTs X es vs σ F W K) (hn : (assignEach es X.env).length = ds.length := by rfl) (hst : (assignEach es X.env).findIdx? (·.1) = none := by rfl) (hc : X.calm = true := by rfl) : TgT X (.Tuple es x1 pos) v σ F W K := fun H w Q q => by
  obtain ⟨a, us, rfl, h1, s1, z1⟩ := r.tup_inv
  exact tmG_of (pg_tup hc pgs_tm hn hst) ⟨a, us, rfl, SqT.of (w.tup h1), s1.length, h us s1 H w Q q⟩
end

/-! ## what is walked -/
def EvI (X : Cx) (tg iter : Expr) (σ : L2.St) (F W : Hp) (ds : List D) (W1 : Hp) : Prop :=
  ∀ H, Wd F W H → ∀ R : It → Hp → Prop, (∀ (J : It) (G : Hp → Prop) (Y : Nat → Hp → V → Hp → Prop) (F1 H1 : Hp), Go F W H F1 W1 H1 → Walk J ds.length G Y → (∀ F2 W2 H2, Same F1 F2 → Wd F2 W2 H2 → G H2) →
    (∀ (i : Nat) (F2 W2 H2 H3 : Hp) (x : V) (d : D), Same F1 F2 → Wd F2 W2 H2 → Y i H2 x H3 → ds[i]? = some d → ∃ F3, Go F2 W2 H2 F3 W2 H3 ∧ Rep F3 x d) → R J H1) → tmI X tg iter σ H R
section
variable {X : Cx} {e a b c tg : Expr} {es : List Expr} {σ : L2.St} {F F1 W W1 W2 W3 : Hp} {d d1 d2 d3 : D} {ds : List D} {q q1 q2 : Bool} {pos p : Pos} {i j : Int} {k : Nat}
theorem EvI.mono (h : EvI X tg e σ F W ds W1) (ex : Same F F1) : EvI X tg e σ F1 W ds W1 := fun H w R q =>
  h H (w.mono ex) R fun J G Y F' H' g wk hG hY => by
    obtain ⟨F2, e2, g2⟩ := g.up ex w
    exact q J G Y F2 H' g2 wk (fun F3 W3 H3 e3 w3 => hG F3 W3 H3 (e2.trans e3) w3) fun i F3 W3 H3 H4 x d e3 => hY i F3 W3 H3 H4 x d (e2.trans e3)
theorem ei_sq {t : Bool} {xs : List D} (h : EvS X e σ F W (.sq t xs) W1) : EvI X tg e σ F W xs W1 := fun H w R q => by
  cases t with
  | false =>
    refine tmI_of (pi_list pe_tm) (h H w _ fun v F1 H1 g r => ?_)
    obtain ⟨a, vs, rfl, h1, s1, z1⟩ := r.lst_inv
    refine ⟨a, rfl, ⟨vs, SqL.of (g.st.lst h1)⟩, q _ _ _ F1 H1 g (s1.length ▸ walk_list (xs := vs)) (fun F2 W2 H2 e w2 => SqL.of (w2.lst (e _ _ h1))) fun i F2 W2 H2 H3 x d e w2 y hd => ?_⟩
    obtain ⟨rfl, hx⟩ := y
    obtain ⟨d', hd', r'⟩ := s1.get hx
    rw [hd] at hd'; cases hd'
    exact ⟨F2, Go.refl w2, r'.mono e⟩
  | true =>
    refine tmI_of (pi_tup pe_tm) (h H w _ fun v F1 H1 g r => ?_)
    obtain ⟨a, vs, rfl, h1, s1, z1⟩ := r.tup_inv
    refine ⟨a, rfl, ⟨vs, SqT.of (g.st.tup h1)⟩, q _ _ _ F1 H1 g (s1.length ▸ walk_tup (xs := vs)) (fun F2 W2 H2 e w2 => SqT.of (w2.tup (e _ _ h1))) fun i F2 W2 H2 H3 x d e w2 y hd => ?_⟩
    obtain ⟨rfl, hx⟩ := y
    obtain ⟨d', hd', r'⟩ := s1.get hx
    rw [hd] at hd'; cases hd'
    exact ⟨F2, Go.refl w2, r'.mono e⟩
theorem ei_row {α : Type} {f : α → D} {xs : List α} {t : Bool} (h : EvS X e σ F W (eR t f xs) W1) : EvI X tg e σ F W (xs.map f) W1 := ei_sq h
/-- lo, lo + 1, .. below hi -/
def rg (lo hi : Int) : List Int := (List.range (hi - lo).toNat).map fun (i : Nat) => lo + i
theorem rg_get {lo hi : Int} {i : Nat} (h : i < (hi - lo).toNat) : (rg lo hi)[i]? = some (lo + i) := by
  unfold rg
  rw [List.getElem?_map, List.getElem?_range h]; rfl
theorem rg_len {lo hi : Int} : (rg lo hi).length = (hi - lo).toNat := by unfold rg; rw [List.length_map, List.length_range]
theorem ei_range1 (hm : X.mg "range" = none) (h : EvA X [a] σ F W [.int i] W1) (hz : i < 2 ^ 62) (hz0 : -(2 ^ 62) ≤ i) (hg : Gl X "range" := by rfl) (hs : starEach [a] X.env = [(false, eval a X.env)] := by rfl) : EvI X tg (.Call (.Name "range" p) [a] [] pos) σ F W ((rg 0 i).map D.int) W1 := fun H w R q =>
  tmI_of (pi_range1 hg hm pa_tm hs) (h H w _ fun v F1 H1 g r => by
    cases r with
    | cons r t =>
    cases t; cases r
    have el : ((rg 0 i).map D.int).length = i.toNat := by rw [List.length_map, rg_len]; simp
    refine ⟨i, rfl, hz0, hz, q _ _ _ F1 H1 g (by rw [el]; exact walk_range) (fun _ _ _ _ _ => trivial) fun k F2 W2 H2 H3 x d e w2 y hd => ?_⟩
    obtain ⟨rfl, rfl⟩ := y
    have hk : k < i.toNat := by rw [← el]; exact (List.getElem?_eq_some_iff.mp hd).1
    rw [List.getElem?_map, rg_get (by simpa using hk)] at hd
    cases hd
    exact ⟨F2, Go.refl w2, .int _⟩)
theorem ei_range2 (hm : X.mg "range" = none) (h : EvA X [a, b] σ F W [.int i, .int j] W2) (hz : -(2 ^ 62) ≤ i ∧ i < 2 ^ 62 ∧ -(2 ^ 62) ≤ j ∧ j < 2 ^ 62) (hg : Gl X "range" := by rfl) (hs : starEach [a, b] X.env = [(false, eval a X.env), (false, eval b X.env)] := by rfl) (hs2 : starEach [b] X.env = [(false, eval b X.env)] := by rfl) :
    EvI X tg (.Call (.Name "range" p) [a, b] [] pos) σ F W ((rg i j).map D.int) W2 := fun H w R q =>
  tmI_of (pi_range2 hg hm pa_tm hs hs2) (h H w _ fun v F2 H2 g02 r => by
    cases r with
    | cons r t =>
    cases t with
    | cons r2 t =>
    cases t; cases r; cases r2
    have el : ((rg i j).map D.int).length = (j - i).toNat := by rw [List.length_map, rg_len]
    refine ⟨i, j, rfl, hz, q _ _ _ F2 H2 g02 (by rw [el]; exact walk_range) (fun _ _ _ _ _ => trivial) fun k F3 W3 H3 H4 x d e w2 y hd => ?_⟩
    obtain ⟨rfl, rfl⟩ := y
    have hk : k < (j - i).toNat := by rw [← el]; exact (List.getElem?_eq_some_iff.mp hd).1
    rw [List.getElem?_map, rg_get hk] at hd
    cases hd
    exact ⟨F3, Go.refl w2, .int _⟩)
/-- pairs that a walk makes -/
theorem pair_yield {xs ys : Nat → Option V} {i : Nat} {F2 W2 H2 H3 : Hp} {x : V} {d1 d2 : D} (w : Wd F2 W2 H2) (y : YPair xs ys i H2 x H3) (h1 : ∀ v, xs i = some v → Rep F2 v d1) (h2 : ∀ v, ys i = some v → Rep F2 v d2) : ∃ F3, Go F2 W2 H2 F3 W2 H3 ∧ Rep F3 x (.sq true [d1, d2]) := by
  obtain ⟨T, a, b, rfl, hT, rfl, ha, hb⟩ := y
  exact ⟨_, Go.new w hT, Go.rep_new (t := true) w hT (.cons (h1 a ha) (.cons (h2 b hb) .nil)) (by simp)⟩
/-- numbered -/
def enumD (ds : List D) : List D := ds.zipIdx.map fun p => .sq true [.int (p.2 : Int), p.1]
theorem enumD_get {ds : List D} {i : Nat} : (enumD ds)[i]? = ds[i]?.map fun d => .sq true [.int (i : Int), d] := by
  unfold enumD
  rw [List.getElem?_map, List.getElem?_zipIdx]
  cases ds[i]? <;> simp
theorem ei_enumL {elts : List Expr} {kk : Nat} {tpos : Pos} {xs : List D} (hm : X.mg "enumerate" = none) (h : EvA X [a] σ F W [.sq false xs] W1) (hg : Gl X "enumerate" := by rfl) (hs : starEach [a] X.env = [(false, eval a X.env)] := by rfl) :
    EvI X (.Tuple elts kk tpos) (.Call (.Name "enumerate" p) [a] [] pos) σ F W (enumD xs) W1 := fun H w R q =>
  tmI_of (pi_enum hg hm pa_tm hs) (h H w _ fun v F1 H1 g r => by
    cases r with
    | cons r t =>
    cases t
    obtain ⟨l, vs, rfl, h1, s1, z1⟩ := r.lst_inv
    have el : (enumD xs).length = vs.length := by unfold enumD; rw [List.length_map, List.length_zipIdx, s1.length]
    refine ⟨l, vs, rfl, SqL.of (g.st.lst h1), q _ _ _ F1 H1 g (by rw [el]; exact walk_enum) (fun F2 W2 H2 e w2 => SqL.of (w2.lst (e _ _ h1))) fun i F2 W2 H2 H3 x d e w2 y hd => ?_⟩
    rw [enumD_get, Option.map_eq_some_iff] at hd
    obtain ⟨d', hd', rfl⟩ := hd
    exact pair_yield w2 y (fun v hv => by cases hv; exact .int _) fun v hv => by
      obtain ⟨d2, hd2, r2⟩ := s1.get hv
      rw [hd'] at hd2; cases hd2
      exact r2.mono e)
def zipD (xs ys : List D) : List D := (xs.zip ys).map fun p => .sq true [p.1, p.2]
theorem ei_zip {elts : List Expr} {kk : Nat} {tpos : Pos} {xs ys : List D} (hm : X.mg "zip" = none) (h : EvA X [a, b] σ F W [.sq false xs, .sq false ys] W2) (hg : Gl X "zip" := by rfl) (hs : starEach [a, b] X.env = (false, eval a X.env) :: starEach [b] X.env := by rfl) (hpl : (backTo pos (starEach [b] X.env)).any (·.1) = false := by rfl) :
    EvI X (.Tuple elts kk tpos) (.Call (.Name "zip" p) [a, b] [] pos) σ F W (zipD xs ys) W2 := fun H w R q =>
  tmI_of (pi_zip hg hm pa_tm hs hpl) (h H w _ fun v F2 H2 g02 r => by
    cases r with
    | cons r t =>
    cases t with
    | cons r2 t =>
    cases t
    have g2 := g02
    obtain ⟨l, vs, rfl, h1, s1, z1⟩ := r.lst_inv
    obtain ⟨l2, us, rfl, h2, s2, z2⟩ := r2.lst_inv
    have el : (zipD xs ys).length = min vs.length us.length := by unfold zipD; rw [List.length_map, List.length_zip, s1.length, s2.length]
    refine ⟨l, l2, vs, us, rfl, SqL.of (g2.st.lst h1), SqL.of (g2.st.lst h2), q _ _ _ F2 H2 g02 (walk_zip el) (fun F3 W3 H3 e w3 => ⟨SqL.of (w3.lst (e _ _ h1)), SqL.of (w3.lst (e _ _ h2))⟩) fun i F3 W3 H3 H4 x d e w3 y hd => ?_⟩
    unfold zipD at hd
    rw [List.getElem?_map, Option.map_eq_some_iff] at hd
    obtain ⟨⟨da, db⟩, hd', rfl⟩ := hd
    rw [List.getElem?_zip_eq_some] at hd'
    exact pair_yield w3 y (fun v hv => by
      obtain ⟨d2, hd2, r2⟩ := s1.get hv
      rw [hd'.1] at hd2; cases hd2
      exact r2.mono e) fun v hv => by
      obtain ⟨d2, hd2, r2⟩ := s2.get hv
      rw [hd'.2] at hd2; cases hd2
      exact r2.mono e)
end

/-! ## owned cells -/
def del (W : Hp) (p : Addr) : Hp := fun a => if a = p then none else W a
theorem del_upd {W : Hp} {p : Addr} {o : HO} (h : W p = none) : del (upd W p o) p = W := by
  funext a; unfold del upd
  by_cases e : a = p
  · rw [if_pos e, e]; exact h.symm
  · rw [if_neg e, if_neg e]
theorem Wd.fresh {F W H : Hp} (w : Wd F W H) {p : Addr} (h : H p = none) : F p = none ∧ W p = none := by
  constructor
  · rcases opt_cases (F p) with z | ⟨z, hz⟩
    · exact z
    · obtain ⟨u, hu⟩ := w.f.some hz
      rw [h] at hu; cases hu
  · rcases opt_cases (W p) with z | ⟨z, hz⟩
    · exact z
    · rw [w.w p z hz] at h; cases h
/-- a new owned cell -/
theorem Go.own {F W H : Hp} (w : Wd F W H) {p : Addr} {o : HO} (h : H p = none) : Go F W H F (upd W p o) (upd H p o) := by
  obtain ⟨fp, wp⟩ := w.fresh h
  refine ⟨⟨fun a u q => ?_, fun a u q => ?_, fun a u q => ?_⟩, Same.refl F, fun a u q _ => by rw [upd_ne (ne_of_none q h)]; exact q, fun a o h q => absurd (h.symm.trans q) (by simp), fun a u q => ?_⟩
  · rw [upd_ne (ne_of_none q fp)]; exact w.f a u q
  · by_cases e : a = p
    · subst e; rw [upd_same] at q ⊢; exact q
    · rw [upd_ne e] at q ⊢; exact w.w a u q
  · rw [upd_ne (ne_of_none q fp)]; exact w.d a u q
  · by_cases e : a = p
    · subst e; exact .inr h
    · rw [upd_ne e] at q; exact .inl ⟨u, q⟩
/-- an owned cell is written -/
theorem Go.put {F W H : Hp} (w : Wd F W H) {p : Addr} {o u : HO} (h : W p = some u) : Go F W H F (upd W p o) (upd H p o) := by
  have fp : F p = none := by
    rcases opt_cases (F p) with z | ⟨z, hz⟩
    · exact z
    · rw [w.d p z hz] at h; cases h
  refine ⟨⟨fun a u q => ?_, fun a u q => ?_, fun a u q => ?_⟩, Same.refl F, fun a z q n => ?_, fun a o h q => absurd (h.symm.trans q) (by simp), fun a z q => ?_⟩
  · rw [upd_ne (ne_of_none q fp)]; exact w.f a u q
  · by_cases e : a = p
    · subst e; rw [upd_same] at q ⊢; exact q
    · rw [upd_ne e] at q ⊢; exact w.w a u q
  · rw [upd_ne (ne_of_none q fp)]; exact w.d a u q
  · by_cases e : a = p
    · subst e; rw [h] at n; cases n
    · rw [upd_ne e]; exact q
  · by_cases e : a = p
    · subst e; exact .inl ⟨u, h⟩
    · rw [upd_ne e] at q; exact .inl ⟨z, q⟩
/-- an owned cell is frozen -/
theorem Go.freeze {F W H : Hp} (w : Wd F W H) {p : Addr} {o : HO} (h : W p = some o) : Go F W H (upd F p o) (del W p) H := by
  have fp : F p = none := by
    rcases opt_cases (F p) with z | ⟨z, hz⟩
    · exact z
    · rw [w.d p z hz] at h; cases h
  refine ⟨⟨fun a u q => ?_, fun a u q => ?_, fun a u q => ?_⟩, fun a u q => by rw [upd_ne (ne_of_none q fp)]; exact q, fun a z q _ => q, fun a z q q2 => ?_, fun a z q => ?_⟩
  · by_cases e : a = p
    · subst e; rw [upd_same] at q; cases q; exact .inl (w.w a _ h)
    · rw [upd_ne e] at q; exact w.f a u q
  · unfold del at q
    by_cases e : a = p
    · rw [if_pos e] at q; cases q
    · rw [if_neg e] at q; exact w.w a u q
  · unfold del
    by_cases e : a = p
    · rw [if_pos e]
    · rw [if_neg e]; rw [upd_ne e] at q; exact w.d a u q
  · by_cases e : a = p
    · subst e; exact .inr ⟨o, h⟩
    · rw [upd_ne e] at q2; rw [q] at q2; cases q2
  · unfold del at q
    by_cases e : a = p
    · rw [if_pos e] at q; cases q
    · rw [if_neg e] at q; exact .inl ⟨z, q⟩
/-- one more owned cell, not looked at -/
theorem Wd.less {F W H : Hp} {p : Addr} {o : HO} (w : Wd F (upd W p o) H) (h : W p = none) : Wd F W H := by
  refine ⟨w.f, fun a u q => w.w a u (by rw [upd_ne (ne_of_none q h)]; exact q), fun a u q => ?_⟩
  have := w.d a u q
  by_cases e : a = p
  · rw [e]; exact h
  · rw [upd_ne e] at this; exact this
theorem Go.more {F W H F' W' H' : Hp} {p : Addr} {o : HO} (g : Go F W H F' W' H') (w : Wd F (upd W p o) H) (h : W p = none) : W' p = none ∧ Go F (upd W p o) H F' (upd W' p o) H' := by
  have hp : H p = some o := w.w p o upd_same
  have w'p : W' p = none := by
    rcases opt_cases (W' p) with z | ⟨z, hz⟩
    · exact z
    · rcases g.nW p z hz with ⟨u, hu⟩ | hu
      · rw [h] at hu; cases hu
      · rw [hp] at hu; cases hu
  have h'p : H' p = some o := g.keep p o hp h
  have fp : F p = none := by
    rcases opt_cases (F p) with z | ⟨z, hz⟩
    · exact z
    · have := w.d p z hz; rw [upd_same] at this; cases this
  refine ⟨w'p, ⟨g.st.f, fun a u q => ?_, fun a u q => ?_⟩, g.ex, fun a u q n => ?_, fun a u q q2 => ?_, fun a u q => ?_⟩
  · by_cases e : a = p
    · subst e; rw [upd_same] at q; cases q; exact h'p
    · rw [upd_ne e] at q; exact g.st.w a u q
  · by_cases e : a = p
    · subst e
      rcases g.nF a u fp q with z | ⟨z, hz⟩
      · rw [hp] at z; cases z
      · rw [h] at hz; cases hz
    · rw [upd_ne e]; exact g.st.d a u q
  · by_cases e : a = p
    · subst e; rw [upd_same] at n; cases n
    · rw [upd_ne e] at n; exact g.keep a u q n
  · rcases g.nF a u q q2 with z | ⟨z, hz⟩
    · exact .inl z
    · exact .inr ⟨z, by rw [upd_ne (ne_of_none hz h)]; exact hz⟩
  · by_cases e : a = p
    · subst e; exact .inl ⟨o, upd_same⟩
    · rw [upd_ne e] at q
      rcases g.nW a u q with ⟨z, hz⟩ | z
      · exact .inl ⟨z, by rw [upd_ne e]; exact hz⟩
      · exact .inr z
/-- a value that no object is needed for: back to what was frozen -/
theorem Go.back {F W H F' W' H' : Hp} (g : Go F W H F' W' H') : Go F W H F W' H' :=
  ⟨g.st.mono g.ex, Same.refl F, g.keep, fun a o h q => absurd (h.symm.trans q) (by simp), g.nW⟩
end Z
set_option Elab.async false
set_option linter.all false
set_option maxRecDepth 100000
set_option maxHeartbeats 1000000
namespace Z
open PySem PySem.Spec PyProof.Rows L2
/-! ## comprehensions -/
def tmTs (X : Cx) (ifs : List Expr) : TT := fun σ H Q => ∀ pins s, Inv X pins σ H s →
  wpAny (model X.prog X.w) X.A (forIn ifs true fun c r => if r = true then do let ok ← isTrue c X.env (eval c X.env); pure (ForInStep.yield ok) else pure (ForInStep.yield r)) (TP X pins σ Q) X.xe s
theorem pts_tm {X : Cx} {ifs : List Expr} : PTs X ifs (tmTs X ifs) := ⟨fun pins s _ _ _ I h => h pins s I⟩
theorem tmTs_of {X : Cx} {ifs : List Expr} {t : TT} (h : PTs X ifs t) {σ : L2.St} {H : Hp} {Q : Bool → Hp → Prop} (q : t σ H Q) : tmTs X ifs σ H Q := fun pins s I => h.run pins s σ H Q I q
def EvTs (X : Cx) (ifs : List Expr) (σ : L2.St) (F W : Hp) (b : Bool) (W' : Hp) : Prop :=
  ∀ H, Wd F W H → ∀ Q : Bool → Hp → Prop, (∀ F' H', Go F W H F' W' H' → Q b H') → tmTs X ifs σ H Q
section
variable {X : Cx} {e elt a b c tg iter : Expr} {es ifs : List Expr} {σ : L2.St} {F F1 W W1 W2 W3 : Hp} {d d1 d2 d3 : D} {ds : List D} {q q1 q2 : Bool} {pos p : Pos} {i j : Int} {k : Nat}
theorem ets_nil : EvTs X [] σ F W true W := fun H w Q k => tmTs_of pts_nil (k F H (Go.refl w))
theorem ets_one (h : EvT X c σ F W q W1) : EvTs X [c] σ F W q W1 := fun H w Q k => tmTs_of (pts_one pt_tm) (h H w Q k)
theorem EvTs.mono (h : EvTs X ifs σ F W q W1) (ex : Same F F1) : EvTs X ifs σ F1 W q W1 := fun H w Q k =>
  h H (w.mono ex) Q fun F' H' g => by
    obtain ⟨F2, e2, g2⟩ := g.up ex w
    exact k F2 H' g2
/-- the block of a comprehension of X -/
abbrev bX (X : Cx) (scope : Scope) (s : Shared) (H : Hp) (C : Addr) (cl : List (Str × Addr)) (fp : List Addr) : Cx := X.blk s H scope (compEnvC scope cl C X.env) fp
def bE (X : Cx) (scope : Scope) (e : Expr) : TE := fun σ H Q => ∀ s H0 C cl fp, tmE (bX X scope s H0 C cl fp) e σ H Q
def bTs (X : Cx) (scope : Scope) (ifs : List Expr) : TT := fun σ H Q => ∀ s H0 C cl fp, tmTs (bX X scope s H0 C cl fp) ifs σ H Q
def bG (X : Cx) (scope : Scope) (tg : Expr) : TG := fun v σ H Q => ∀ s H0 C cl fp, tmG (bX X scope s H0 C cl fp) tg v σ H Q
/-- one turn of a comprehension: the target at v, the tests, the element -/
def Turn1 (X : Cx) (scope : Scope) (vs : List Nat) (tg : Expr) (ifs : List Expr) (elt : Expr) (v : V) (σ : L2.St) (F W : Hp) (b : Bool) (W1 : Hp) (d : D) (W2 : Hp) : Prop :=
  ∀ s H0 C cl fp, TgT (bX X scope s H0 C cl fp) tg v (wipe σ vs) F W fun σ2 => wipe σ2 vs = wipe σ vs ∧ (∀ s H0 C cl fp, EvTs (bX X scope s H0 C cl fp) ifs σ2 F W b W1) ∧ (b = true → ∀ s H0 C cl fp, EvS (bX X scope s H0 C cl fp) elt σ2 F W1 d W2)
/-- what a list comprehension makes -/
def LcS (X : Cx) (elt tg iter : Expr) (ifs : List Expr) (scope : Scope) (own : List (Str × Nat)) (σ : L2.St) (F W : Hp) (d : D) (W' : Hp) : Prop :=
  ∀ H, Wd F W H → ∀ Q : VK, (∀ v F' H', Go F W H F' W' H' → Rep F' v d → Q v H') → tLc (tmI X tg iter) (bG X scope tg) (bTs X scope ifs) (bE X scope elt) (own.map (·.2)) σ H Q
theorem ev_ofLc {own : List (Str × Nat)} {scope : Scope} (h : LcS X elt tg iter ifs scope own σ F W d W1) (ok : BlkOk X.N X.env.scope scope own := by exact blkOk_by (by decide +kernel)) (hc : X.calm = true := by rfl) (hN : X.N.Nodup := by first | assumption | decide +kernel) (hs : ∀ x, foldedSetIterable iter X.env x = pure x := by intro _; rfl) :
    EvS X (.ListComp elt [⟨tg, iter, ifs, 0⟩] scope pos) σ F W d W1 := fun H w Q q =>
  tm_of (pe_lc (g := bG X scope tg) (tt := bTs X scope ifs) (te := bE X scope elt) hc hN pi_tm ok (fun s H0 C cl fp => ⟨fun pins s1 σ1 H1 v u Q1 I r h => h s H0 C cl fp pins s1 u I r⟩)
    (fun s H0 C cl fp => ⟨fun pins s1 σ1 H1 Q1 I h => h s H0 C cl fp pins s1 I⟩) (fun s H0 C cl fp => ⟨fun pins s1 σ1 H1 Q1 I h => h s H0 C cl fp pins s1 I⟩) hs) (h H w Q q)
theorem lc_G {own : List (Str × Nat)} {scope : Scope} {n : Nat} {Wf Wm : Nat → Hp} {p : Nat → Bool} {g : Nat → D} (hi : EvI X tg iter σ F W ds (Wf 0)) (hn : ds.length = n)
    (body : ∀ (i : Nat) (d : D), ds[i]? = some d → ∀ v F1, Same F F1 → Rep F1 v d → Turn1 X scope (own.map (·.2)) tg ifs elt v σ F1 (Wf i) (p i) (Wm i) (g i) (Wf (i + 1))) (hw : ∀ i, i < n → p i = false → Wm i = Wf (i + 1)) (hz : n ≤ 100000)
    : LcS X elt tg iter ifs scope own σ F W (.sq false (((List.range n).filter p).map g)) (Wf n) := fun H w Q q =>
    (hi H w _ fun J G Y F1 H1 g1 wk hG hY => fun Dl hD => by
      have hDl := g1.st.fresh hD
      rw [hn] at wk
      refine lc_it wk (fun i H' => ∃ Fi acc, Go F1 (upd (Wf 0) Dl (.lst [])) (upd H1 Dl (.lst [])) Fi (upd (Wf i) Dl (.lst acc)) H' ∧ Reps Fi acc (((List.range i).filter p).map g) ∧ Wf i Dl = none) ?_ ?_ ?_ ?_
      · exact ⟨F1, [], Go.refl (Go.own g1.st hD).st, .nil, hDl.2⟩
      · rintro i H' hi' ⟨Fi, acc, gi, _, _⟩
        exact hG Fi _ H' gi.ex gi.st
      · rintro i x H' H'' hi' ⟨Fi, acc, gi, racc, wD⟩ hy
        have hi2 : i < ds.length := by omega
        obtain ⟨F3, g3, r3⟩ := hY i Fi _ H' H'' x ds[i] gi.ex gi.st hy (by simp [hi2])
        have w3 := g3.st.less wD
        have tn := body i ds[i] (by simp [hi2]) x F3 ((g1.ex.trans gi.ex).trans g3.ex) r3
        intro s0 H0' C cl fp
        refine tn s0 H0' C cl fp H'' w3 _ fun σ2 ⟨hσ, ht, he⟩ => ⟨hσ, fun s1 H1' C1 cl1 fp1 => ht s1 H1' C1 cl1 fp1 H'' w3 _ fun F4 H4 g4 => ?_⟩
        obtain ⟨wmD, g4'⟩ := g4.more g3.st wD
        cases hp : p i with
        | false =>
          rw [if_neg Bool.false_ne_true]
          refine ⟨F4, acc, (gi.trans (g3.trans (hw i (by omega) hp ▸ g4'))), ?_, hw i (by omega) hp ▸ wmD⟩
          rw [List.range_succ, List.filter_append, List.map_append]
          simp only [List.filter_cons, hp, Bool.false_eq_true, if_false, List.filter_nil, List.map_nil, List.append_nil]
          exact racc.mono (g3.ex.trans g4.ex)
        | true =>
          rw [if_pos rfl]
          intro s5 H5' C5 cl5 fp5
          refine (he hp s5 H5' C5 cl5 fp5).mono g4.ex H4 g4.st _ fun y F5 H5 g5 r5 => ?_
          obtain ⟨wnD, g5'⟩ := g5.more g4'.st wmD
          have hcell : H5 Dl = some (.lst acc) := g5'.st.w Dl _ upd_same
          have hlen : acc.length ≤ i := by
            rw [racc.length, List.length_map]
            have := List.length_filter_le p (List.range i)
            rw [List.length_range] at this; exact this
          refine ⟨acc, hcell, Nat.lt_of_le_of_lt hlen (Nat.lt_of_lt_of_le (by omega) (sz_ok (Nat.le_refl 100000))), F5, acc ++ [y], ?_, ?_, wnD⟩
          · have := Go.put (o := .lst (acc ++ [y])) g5'.st (p := Dl) upd_same
            rw [upd_upd] at this
            exact gi.trans (g3.trans (g4'.trans (g5'.trans this)))
          · rw [List.range_succ, List.filter_append, List.map_append]
            simp only [List.filter_cons, hp, if_true, List.filter_nil, List.map_cons, List.map_nil]
            exact (racc.mono (g3.ex.trans (g4.ex.trans g5.ex))).snoc r5
      · rintro H' ⟨Fi, acc, gi, racc, wD⟩
        have fr := Go.freeze gi.st (p := Dl) upd_same
        rw [del_upd wD] at fr
        refine q (.ref Dl) _ H' ((g1.trans (Go.own g1.st hD)).trans (gi.trans fr)) (.sq upd_same (racc.mono fr.ex) ?_)
        rw [List.length_map]
        have := List.length_filter_le p (List.range n)
        rw [List.length_range] at this; omega)
/-- over the rows of one sort, nothing drawn -/
theorem lc_of {α : Type} {xs : List α} {f : α → D} {p : α → Bool} {g : α → D} {own : List (Str × Nat)} {scope : Scope} (hi : EvI X tg iter σ F W (xs.map f) W1) (hz : xs.length ≤ 100000)
    (body : ∀ x ∈ xs, ∀ v F1, Same F F1 → Rep F1 v (f x) → Turn1 X scope (own.map (·.2)) tg ifs elt v σ F1 W1 (p x) W1 (g x) W1)
    : LcS X elt tg iter ifs scope own σ F W (.sq false ((xs.filter p).map g)) W1 := by
  cases xs with
  | nil =>
    exact lc_G (n := 0) (Wf := fun _ => W1) (Wm := fun _ => W1) (p := fun _ => false) (g := fun _ => D.non) hi rfl (fun i d h => by simp at h) (fun _ _ _ => rfl) (Nat.zero_le _)
  | cons x0 xs' =>
    have e : ((List.range (x0 :: xs').length).filter (fun i => p ((x0 :: xs').getD i x0))).map (fun i => g ((x0 :: xs').getD i x0)) = ((x0 :: xs').filter p).map g := by
      have h0 : (List.range (x0 :: xs').length).map (fun i => (x0 :: xs').getD i x0) = x0 :: xs' := by
        apply List.ext_getElem
        · simp
        · intro i h1 h2
          rw [List.getElem_map, List.getElem_range, List.getD_eq_getElem?_getD, List.getElem?_eq_getElem h2]; rfl
      conv => rhs; rw [← h0]
      rw [List.filter_map, List.map_map]
      rfl
    rw [← e]
    refine lc_G (n := (x0 :: xs').length) (Wf := fun _ => W1) (Wm := fun _ => W1) hi (by rw [List.length_map]) (fun i d h v F1 ex r => ?_) (fun _ _ _ => rfl) hz
    rw [List.getElem?_map, Option.map_eq_some_iff] at h
    obtain ⟨x, hx, rfl⟩ := h
    have e2 : (x0 :: xs').getD i x0 = x := by rw [List.getD_eq_getElem?_getD, hx]; rfl
    rw [e2]
    exact body x (List.mem_of_getElem? hx) v F1 ex r
theorem LcS.is {own : List (Str × Nat)} {scope : Scope} (h : LcS X elt tg iter ifs scope own σ F W d W1) (q : d = d1) : LcS X elt tg iter ifs scope own σ F W d1 W1 := q ▸ h
/-! ## statements -/
structure AE where
  nx : L2.St → Hp → Hp → Prop
  rt : D → Hp → Prop
  bk : L2.St → Hp → Hp → Prop := fun _ _ _ => False
  ct : L2.St → Hp → Hp → Prop := fun _ _ _ => False
/-- what is wanted behind a block comes -/
structure Ok (A : AE) (F W H : Hp) (E : Ends) : Prop where
  nx : ∀ σ' F' W' H', Go F W H F' W' H' → A.nx σ' F' W' → E.nx σ' H'
  rt : ∀ d v F' W' H', Go F W H F' W' H' → Rep F' v d → A.rt d W' → E.rt v H'
  bk : ∀ σ' F' W' H', Go F W H F' W' H' → A.bk σ' F' W' → E.bk σ' H'
  ct : ∀ σ' F' W' H', Go F W H F' W' H' → A.ct σ' F' W' → E.ct σ' H'
def BlkS (X : Cx) (sts : List Stmt) (σ : L2.St) (F W : Hp) (A : AE) : Prop := ∀ H, Wd F W H → ∀ E : Ends, Ok A F W H E → tmB X sts E σ H
theorem Ok.go {A : AE} {H F' W' H' : Hp} {E : Ends} (o : Ok A F W H E) (g : Go F W H F' W' H') : Ok A F' W' H' E :=
  ⟨fun σ' F2 W2 H2 g2 q => o.nx σ' F2 W2 H2 (g.trans g2) q, fun d v F2 W2 H2 g2 r q => o.rt d v F2 W2 H2 (g.trans g2) r q, fun σ' F2 W2 H2 g2 q => o.bk σ' F2 W2 H2 (g.trans g2) q, fun σ' F2 W2 H2 g2 q => o.ct σ' F2 W2 H2 (g.trans g2) q⟩
variable {A : AE} {rest sa sb body : List Stmt} {st : Stmt}
/-- behind what was done -/
theorem BlkS.run {H F' W' H' : Hp} {E : Ends} {sts : List Stmt} {σ' : L2.St} (h : BlkS X sts σ' F' W' A) (o : Ok A F W H E) (g : Go F W H F' W' H') : tmB X sts E σ' H' := h H' g.st E (o.go g)
theorem bl_nil (h : A.nx σ F W) : BlkS X [] σ F W A := fun H w E o => tmB_of pss_nil (o.nx σ F W H (Go.refl w) h)
theorem bl_ret {rest : List Stmt} (h : EvS X e σ F W d W1) (q : A.rt d W1) : BlkS X (.Return (some e) pos :: rest) σ F W A := fun H w E o =>
  tmB_of (pss_cons (ps_ret pe_tm) pss_tm) (h H w _ fun v F' H' g r => o.rt d v F' W1 H' g r q)
theorem bl_retN {rest : List Stmt} (q : A.rt .non W) : BlkS X (.Return none pos :: rest) σ F W A := fun H w E o =>
  tmB_of (pss_cons ps_retN pss_tm) (o.rt .non .non F W H (Go.refl w) .non q)
theorem bl_expr (h : EvS X e σ F W d W1) (k : BlkS X rest σ F W1 A) (hs : swapsWith e none pos.line X.env = pure false := by rfl) : BlkS X (.Expr e pos :: rest) σ F W A := fun H w E o =>
  tmB_of (pss_cons (ps_expr pe_tm hs) pss_tm) (h H w _ fun v F' H' g r => k.run o g.back)
theorem bl_asg {i : Nat} {x : Str} {pos' : Pos} (h : EvS X e σ F W d W1) (k : ∀ v F1, Same F F1 → Rep F1 v d → BlkS X rest (σ.set i (some v)) F1 W1 A) (hi : X.N[i]? = some x := by rfl) (hx : Loc X.env.scope x := by first | exact Or.inl rfl | exact Or.inr rfl)
    (hs : swapsWith e (some (.Name x pos')) pos.line X.env = pure false := by rfl) (hN : X.N.Nodup := by first | assumption | decide +kernel) (hf : X.fn x = true ∨ X.env.scope.names.lookup x = some .local := by first | exact .inl rfl | exact .inr rfl) :
    BlkS X (.Assign [.Name x pos'] e pos :: rest) σ F W A := fun H w E o =>
  tmB_of (pss_cons (ps_set hN hi hx pe_tm hs hf) pss_tm) (h H w _ fun v F' H' g r => (k v F' g.ex r).run o g)
/-- data that no object is needed for -/
inductive Flat : D → V → Prop
  | non : Flat .non .non
  | bl (b : Bool) : Flat (.bl b) (.bl b)
  | int (i : Int) : Flat (.int i) (.int i)
  | str (s : Str) : Flat (.str s) (.str s)
theorem Flat.eq {v v' : V} (f : Flat d v) (r : Rep F v' d) : v' = v := by cases f <;> cases r <;> rfl
theorem Flat.rep {v : V} (f : Flat d v) : Rep F v d := by
  cases f with
  | non => exact .non
  | bl b => exact .bl b
  | int i => exact .int i
  | str s => exact .str s
theorem bl_asgF {i : Nat} {x : Str} {pos' : Pos} {v : V} (h : EvS X e σ F W d W1) (f : Flat d v) (k : BlkS X rest (σ.set i (some v)) F W1 A) (hi : X.N[i]? = some x := by rfl) (hx : Loc X.env.scope x := by first | exact Or.inl rfl | exact Or.inr rfl)
    (hs : swapsWith e (some (.Name x pos')) pos.line X.env = pure false := by rfl) (hN : X.N.Nodup := by first | assumption | decide +kernel) (hf : X.fn x = true ∨ X.env.scope.names.lookup x = some .local := by first | exact .inl rfl | exact .inr rfl) :
    BlkS X (.Assign [.Name x pos'] e pos :: rest) σ F W A := fun H w E o =>
  tmB_of (pss_cons (ps_set hN hi hx pe_tm hs hf) pss_tm) (h H w _ fun v' F' H' g r => by rw [f.eq r]; exact k.run o g.back)
/-- name = [..] on one line: the name is stored within the comprehension -/
theorem bl_asgLc {i : Nat} {x : Str} {pos' : Pos} {own : List (Str × Nat)} {scope : Scope} (h : LcS X elt tg iter ifs scope own σ F W d W1) (k : ∀ v F1, Same F F1 → Rep F1 v d → BlkS X rest (σ.set i (some v)) F1 W1 A) (hi : X.N[i]? = some x := by rfl)
    (hx : X.env.scope.names.lookup x = some .local := by rfl) (hsw : swapsWith (.ListComp elt [⟨tg, iter, ifs, 0⟩] scope p) (some (.Name x pos')) pos.line X.env = pure true := by exact sw_true rfl rfl rfl (by decide +kernel))
    (ok : BlkOk X.N X.env.scope scope own := by exact blkOk_by (by decide +kernel)) (hc : X.calm = true := by rfl) (hN : X.N.Nodup := by first | assumption | decide +kernel) (hs : ∀ x, foldedSetIterable iter X.env x = pure x := by intro _; rfl) :
    BlkS X (.Assign [.Name x pos'] (.ListComp elt [⟨tg, iter, ifs, 0⟩] scope p) pos :: rest) σ F W A := fun H w E o =>
  tmB_of (pss_cons (ps_setLc (g := bG X scope tg) (tt := bTs X scope ifs) (te := bE X scope elt) hc hN hi hx hsw pi_tm ok (fun s H0 C cl fp => ⟨fun pins s1 σ1 H1 v u Q1 I r h => h s H0 C cl fp pins s1 u I r⟩)
    (fun s H0 C cl fp => ⟨fun pins s1 σ1 H1 Q1 I h => h s H0 C cl fp pins s1 I⟩) (fun s H0 C cl fp => ⟨fun pins s1 σ1 H1 Q1 I h => h s H0 C cl fp pins s1 I⟩) hs) pss_tm) (h H w _ fun v F' H' g r => (k v F' g.ex r).run o g)
/-- name = .. where the targets are several, or no name -/
theorem bl_asgT {tg : Expr} (h : EvS X e σ F W d W1) (k : ∀ v F1, Same F F1 → Rep F1 v d → TgT X tg v σ F1 W1 fun σ2 => BlkS X rest σ2 F1 W1 A) (hs : swapsWithSole [tg] e pos.line X.env = pure false := by rfl) (hw : swappedStores [tg] e X.env = pure none := by rfl)
    (h1 : (assignEach [tg] X.env).map (·.2) = [assign tg X.env] := by rfl) : BlkS X (.Assign [tg] e pos :: rest) σ F W A := fun H w E o =>
  tmB_of (pss_cons (ps_asg pe_tm pg_tm hs hw h1) pss_tm) (h H w _ fun v F' H' g r => k v F' g.ex r H' g.st _ fun σ2 q => q.run o g)
theorem bl_if (hc : EvT X c σ F W q W1) (ha : q = true → BlkS X sa σ F W1 { A with nx := fun σ' F' W' => BlkS X rest σ' F' W' A }) (hb : q = false → BlkS X sb σ F W1 { A with nx := fun σ' F' W' => BlkS X rest σ' F' W' A }) :
    BlkS X (.If c sa sb pos :: rest) σ F W A := fun H w E o =>
  tmB_of (pss_cons (ps_if pt_tm pss_tm pss_tm) pss_tm) (hc H w _ fun F' H' g => by
    have o2 : Ok { A with nx := fun σ' F' W' => BlkS X rest σ' F' W' A } F W H { E with nx := tmB X rest E } := ⟨fun σ' F2 W2 H2 g2 q => q.run o g2, o.rt, o.bk, o.ct⟩
    cases q with
    | true => rw [if_pos rfl]; exact (ha rfl).run o2 g.back
    | false => rw [if_neg Bool.false_ne_true]; exact (hb rfl).run o2 g.back)
/-- if .. : (returns), no else: the rest goes on -/
theorem bl_when (hc : EvT X c σ F W q W1) (ha : q = true → BlkS X sa σ F W1 { A with nx := fun σ' F' W' => BlkS X rest σ' F' W' A }) (hb : q = false → BlkS X rest σ F W1 A) : BlkS X (.If c sa [] pos :: rest) σ F W A :=
  bl_if hc ha fun h => bl_nil (hb h)
theorem bl_absurd (h : False) : BlkS X sa σ F W A := h.elim
theorem bl_pass (k : BlkS X rest σ F W A) : BlkS X (.Pass pos :: rest) σ F W A := fun H w E o => tmB_of (pss_cons ps_pass pss_tm) (k.run o (Go.refl w))
theorem bl_brk (h : A.bk σ F W) : BlkS X (.Break pos :: rest) σ F W A := fun H w E o => tmB_of (pss_cons ps_break pss_tm) (o.bk σ F W H (Go.refl w) h)
theorem bl_cnt (h : A.ct σ F W) : BlkS X (.Continue pos :: rest) σ F W A := fun H w E o => tmB_of (pss_cons ps_continue pss_tm) (o.ct σ F W H (Go.refl w) h)
/-- for: I by the number of turns, the slots and the worlds -/
theorem bl_for {n : Nat} (hi : EvI X tg iter σ F W ds W1) (hn : ds.length = n) (I : Nat → L2.St → Hp → Hp → Prop) (h0 : ∀ F1, Same F F1 → I 0 σ F1 W1)
    (hs : ∀ (i : Nat) (d : D), ds[i]? = some d → ∀ σ' F1 W', Same F F1 → I i σ' F1 W' → ∀ v F2, Same F1 F2 → Rep F2 v d → TgT X tg v σ' F2 W' fun σ2 => BlkS X body σ2 F2 W' { nx := I (i + 1), rt := A.rt, bk := fun σ' F' W' => BlkS X rest σ' F' W' A, ct := I (i + 1) })
    (hd : ∀ σ' F1 W', Same F F1 → I n σ' F1 W' → BlkS X rest σ' F1 W' A) (hc : X.calm = true := by rfl) (hp : PassesOwn (model X.prog X.w) X.A X.env X.xe := by exact PassesOwn.never) (hf : ∀ x, foldedSetIterable iter X.env x = pure x := by intro _; rfl) :
    BlkS X (.For tg iter body [] pos :: rest) σ F W A := fun H w E o =>
  tmB_of (pss_cons (ps_for hp hc pi_tm pg_tm pss_tm hf) pss_tm) (hi H w _ fun J G Y F1 H1 g1 wk hG hY => by
    rw [hn] at wk
    refine for_it wk (fun i σ' H' => ∃ F' W', Go F W H F' W' H' ∧ Same F1 F' ∧ I i σ' F' W') ⟨F1, W1, g1, Same.refl F1, h0 F1 g1.ex⟩ ?_ ?_ ?_
    · rintro i σ' H' _ ⟨F', W', g, e, _⟩
      exact hG F' W' H' e g.st
    · rintro i x σ' H' H'' hi' ⟨F', W', g, e, inv⟩ hy
      have hi2 : i < ds.length := by omega
      obtain ⟨F3, g3, r3⟩ := hY i F' W' H' H'' x ds[i] e g.st hy (by simp [hi2])
      refine hs i ds[i] (by simp [hi2]) σ' F' W' g.ex inv x F3 g3.ex r3 H'' g3.st _ fun σ2 q => q H'' g3.st _ ?_
      have gg := g.trans g3
      exact ⟨fun σ4 F4 W4 H4 g4 k => ⟨F4, W4, gg.trans g4, e.trans (g3.ex.trans g4.ex), k⟩, fun d v F4 W4 H4 g4 r k => o.rt d v F4 W4 H4 (gg.trans g4) r k, fun σ4 F4 W4 H4 g4 k => k.run o (gg.trans g4), fun σ4 F4 W4 H4 g4 k => ⟨F4, W4, gg.trans g4, e.trans (g3.ex.trans g4.ex), k⟩⟩
    · rintro σ' H' ⟨F', W', g, e, inv⟩
      exact (hd σ' F' W' g.ex inv).run o g)
/-- over rows of one sort, the state a fold -/
theorem bl_forL {α S : Type} {xs : List α} {f : α → D} (hi : EvI X tg iter σ F W (xs.map f) W1) (st : S → α → S) (s0 : S) (J : S → L2.St → Hp → Hp → Prop) (h0 : ∀ F1, Same F F1 → J s0 σ F1 W1)
    (hs : ∀ pr x po, xs = pr ++ x :: po → ∀ σ' F1 W', Same F F1 → J (pr.foldl st s0) σ' F1 W' → ∀ v F2, Same F1 F2 → Rep F2 v (f x) → TgT X tg v σ' F2 W' fun σ2 =>
      BlkS X body σ2 F2 W' { nx := J (st (pr.foldl st s0) x), rt := A.rt, bk := fun σ' F' W' => BlkS X rest σ' F' W' A, ct := J (st (pr.foldl st s0) x) })
    (hd : ∀ σ' F1 W', Same F F1 → J (xs.foldl st s0) σ' F1 W' → BlkS X rest σ' F1 W' A) (hc : X.calm = true := by rfl) (hp : PassesOwn (model X.prog X.w) X.A X.env X.xe := by exact PassesOwn.never) (hf : ∀ x, foldedSetIterable iter X.env x = pure x := by intro _; rfl) :
    BlkS X (.For tg iter body [] pos :: rest) σ F W A :=
  bl_for (n := xs.length) hi (by rw [List.length_map]) (fun i => J ((xs.take i).foldl st s0)) h0 (fun i d h σ' F1 W' e inv v F2 e2 r => by
    rw [List.getElem?_map, Option.map_eq_some_iff] at h
    obtain ⟨x, hx, rfl⟩ := h
    have hi' := (List.getElem?_eq_some_iff.mp hx).1
    have e1 : (xs.take (i + 1)).foldl st s0 = st ((xs.take i).foldl st s0) x := by rw [List.take_add_one, hx, List.foldl_append]; rfl
    rw [e1]
    refine hs (xs.take i) x (xs.drop (i + 1)) ?_ σ' F1 W' e inv v F2 e2 r
    have hd : xs.drop i = x :: xs.drop (i + 1) := by
      rw [List.drop_eq_getElem_cons hi']
      rw [List.getElem?_eq_getElem hi'] at hx; cases hx; rfl
    rw [← hd, List.take_append_drop]) (fun σ' F1 W' e inv => hd σ' F1 W' e (by rw [List.take_length] at inv; exact inv)) hc hp hf
/-- while: I by a measure -/
theorem bl_while (I : Nat → L2.St → Hp → Hp → Prop) (m0 : Nat) (h0 : I m0 σ F W)
    (hs : ∀ m σ' F1 W', Same F F1 → I m σ' F1 W' → ∃ q W2, EvT X c σ' F1 W' q W2 ∧ (q = true → BlkS X body σ' F1 W2 { nx := fun σ2 F2 W3 => ∃ m', m' < m ∧ I m' σ2 F2 W3, rt := A.rt, bk := fun σ' F' W' => BlkS X rest σ' F' W' A, ct := fun σ2 F2 W3 => ∃ m', m' < m ∧ I m' σ2 F2 W3 }) ∧ (q = false → BlkS X rest σ' F1 W2 A))
    (hp : PassesOwn (model X.prog X.w) X.A X.env X.xe := by exact PassesOwn.never) : BlkS X (.While c body [] pos :: rest) σ F W A := fun H w E o =>
  tmB_of (pss_cons (ps_while hp pt_tm pss_tm) pss_tm) (by
    refine ⟨fun m σ' H' => ∃ F' W', Go F W H F' W' H' ∧ I m σ' F' W', ⟨m0, F, W, Go.refl w, h0⟩, ?_⟩
    rintro m σ' H' ⟨F', W', g, inv⟩
    obtain ⟨q, W2, ht, hb, hr⟩ := hs m σ' F' W' g.ex inv
    refine ht H' g.st _ fun F3 H3 g3 => ?_
    have gg := g.trans g3.back
    cases q with
    | true =>
      rw [if_pos rfl]
      refine ⟨fun σ2 H2 => ∃ m', m' < m ∧ ∃ F' W', Go F W H F' W' H2 ∧ I m' σ2 F' W', fun σ2 H2 h => h, (hb rfl) H3 g3.back.st _ ?_⟩
      exact ⟨fun σ4 F4 W4 H4 g4 ⟨m', hm, k⟩ => ⟨m', hm, F4, W4, gg.trans g4, k⟩, fun d v F4 W4 H4 g4 r k => o.rt d v F4 W4 H4 (gg.trans g4) r k, fun σ4 F4 W4 H4 g4 k => k.run o (gg.trans g4), fun σ4 F4 W4 H4 g4 ⟨m', hm, k⟩ => ⟨m', hm, F4, W4, gg.trans g4, k⟩⟩
    | false =>
      rw [if_neg Bool.false_ne_true]
      exact (hr rfl).run o gg)
end

/-! ## defs -/
/-- what a def makes of what it is handed, the owned cells ahead and behind -/
abbrev Rel := List D → Hp → Hp → D → Hp → Prop
def spG (rel : Rel) : Sp := fun vs H Q _ => ∃ F W ds d W', Wd F W H ∧ Reps F vs ds ∧ rel ds F W d W' ∧ ∀ v F' H', Go F W H F' W' H' → Rep F' v d → Q v H'
/-- nothing owned is written -/
def relP (r : List D → D → Prop) : Rel := fun ds _ W d W' => r ds d ∧ W' = W
structure FnD (P : Program) (w : World) (K : PySem.W.Frag) (mg : Str → Option Value) (base : Heap) (k : Nat) (x : Str) (ps : List Str) (rel : Rel) : Prop where
  ex : ∃ f fd, FnOk P w K mg base CX0 k f fd ps (spG rel) ∧ mg x = some (.ref f) ∧ PySem.W.keepIn K (.ref f) = true ∧ Binds K fd ps []
section
variable {P : Program} {w : World} {K : PySem.W.Frag} {mg : Str → Option Value} {base : Heap}
theorem fn_ok {x qual : Str} {st : Stmt} {f : Addr} {fd : FuncData} {N ps : List Str} {k : Nat} {rel : Rel} (Fu : Fun K x qual st f fd) (S : FnScope N ps (defScope st)) (hl : ∀ ds F W d W', rel ds F W d W' → ds.length = ps.length)
    (hb : ∀ (cdv : Value) (A : Around) (outer : List Env) (s : Shared) (H : Hp) (E : XK), Room k (A.deeper (envOfC qual (defScope st) s.heap.objs.size f cdv)) → ∀ ds W d W' vs F, rel ds F W d W' → Reps F vs ds →
      BlkS (cxOf CX0 P w K mg base N qual (defScope st) f cdv A outer s H E).nox (defBody st) (start N vs) F W { nx := fun _ _ W2 => d = .non ∧ W2 = W', rt := fun d' W2 => d' = d ∧ W2 = W' }) :
    FnOk P w K mg base CX0 (k + 1) f fd ps (spG rel) :=
  Fu.ok S (fun vs H Q E h => by
    obtain ⟨F, W, ds, d, W', hw, hr, hrel, _⟩ := h
    rw [hr.length]; exact hl _ _ _ _ _ hrel) fun cdv A outer s H vs Q E hr h => by
    obtain ⟨F, W, ds, d, W', hw, hv, hrel, hq⟩ := h
    exact ⟨_, pss_tm, hb cdv A outer s H E hr ds W d W' vs F hrel hv H hw _ ⟨fun σ' F' W2 H' g ⟨e1, e2⟩ => by
      subst e1; subst e2; exact hq .non F' H' g .non, fun d' v F' W2 H' g r ⟨e1, e2⟩ => by
      subst e1; subst e2; exact hq v F' H' g r, fun σ' F' W2 H' _ k => k.elim, fun σ' F' W2 H' _ k => k.elim⟩⟩
end
section
variable {X : Cx} {e : Expr} {es : List Expr} {σ : L2.St} {F W W1 W2 : Hp} {d : D} {ds : List D} {pos p : Pos} {k k' : Nat} {x : Str} {ps : List Str} {rel : Rel}
theorem ev_callG (Fn : FnD X.prog X.w X.K X.mg X.base k x ps rel) (hr : Room k X.A) (ha : EvA X (e :: es) σ F W ds W1) (h : ∀ F1, Same F F1 → rel ds F1 W1 d W2) (hg : Gl X x := by rfl) (hdb : (x == ("__debug__" : Str)) = false := by decide)
    (he : starEach (e :: es) X.env = (false, eval e X.env) :: starEach es X.env := by rfl) (hpl : (backTo pos (starEach es X.env)).any (·.1) = false := by rfl) : EvS X (.Call (.Name x p) (e :: es) [] pos) σ F W d W2 := fun H w Q q => by
  obtain ⟨f, fd, hF, hm, hk, hb⟩ := Fn.ex
  refine tm_of (pe_call (E := E0) hF hr hg hm hk hb .nil pass0 pa_tm hdb he hpl) (ha H w _ fun vs F1 H1 g r => ?_)
  show spG rel (vs ++ []) H1 Q _
  rw [List.append_nil]
  exact ⟨F1, W1, ds, d, W2, g.st, r, h F1 g.ex, fun v F' H' g2 r2 => q v F' H' (g.trans g2) r2⟩
theorem ev_call {r : List D → D → Prop} (Fn : FnD X.prog X.w X.K X.mg X.base k x ps (relP r)) (hr : Room k X.A) (ha : EvA X (e :: es) σ F W ds W1) (h : r ds d) (hg : Gl X x := by rfl) (hdb : (x == ("__debug__" : Str)) = false := by decide)
    (he : starEach (e :: es) X.env = (false, eval e X.env) :: starEach es X.env := by rfl) (hpl : (backTo pos (starEach es X.env)).any (·.1) = false := by rfl) : EvS X (.Call (.Name x p) (e :: es) [] pos) σ F W d W1 :=
  ev_callG Fn hr ha (fun _ _ => ⟨h, rfl⟩) hg hdb he hpl
end
end Z
set_option Elab.async false
set_option linter.all false
set_option maxRecDepth 100000
set_option maxHeartbeats 1000000
namespace PySem
open Sem (wp)
set_option maxHeartbeats 2000000 in
theorem z_meets_enum1 {v : Value} {o : Obj} {H : Heap → Prop} (B : Begins v o H) :
    Meets (Builtin.«enumerate.__new__» ⟨[.type "enumerate", v], []⟩) (fun _ R s => H s.heap ∧
      R (.ok (.ret (.ref (s.heap.push o).objs.size))) { s with heap := (s.heap.push o).push { cls := .type "enumerate", data := .fields #[.none, .bool false, .ref s.heap.objs.size, rawInt 0, .none, .none] } }) :=
  .of_wp fun prog w A R s h => by
    obtain ⟨hp, g, d, tk, os⟩ := s; obtain ⟨h1, h⟩ := h
    have hsub := sub_enumerate
    have q1 : ∀ {A' : Around} {E : Value → Shared → Prop} {Q : Value → Shared → Prop}, Q (.ref hp.objs.size) ⟨hp.push o, g, d, tk, os⟩ → wpAny (model prog w) A' (pyIter v) Q E ⟨hp, g, d, tk, os⟩ :=
      fun q => B.iter prog w _ _ ⟨hp, g, d, tk, os⟩ _ h1 q
    wp_walk using q1
    refine wpAny_stack_any fun st => wpAny_pure ?_
    split
    · rename_i c _ _ _ _ _
      cases (c == Value.type "enumerate")
      · wp_walk using q1
        exact ⟨_, rfl, h⟩
      · wp_walk using q1
        exact ⟨_, rfl, h⟩
    · wp_walk using q1
      exact ⟨_, rfl, h⟩
section
variable {prog : Program} {w : World} {A : Around} {E : Value → Shared → Prop} {s : Shared}
theorem z_enum_begins {v : Value} {o : Obj} {H : Heap → Prop} {Q : Value → Shared → Prop} (B : Begins v o H) (h1 : H s.heap)
    (h : ∀ h', IsEnum h' (s.heap.objs.size + 1) s.heap.objs.size 0 .none → h'.get? s.heap.objs.size = some o → h'.objs.size = s.heap.objs.size + 2 →
      (∀ b o, s.heap.get? b = some o → h'.get? b = some o) → Q (.ref (s.heap.objs.size + 1)) { s with heap := h' }) :
    wpAny (model prog w) A (call (.type "enumerate") [v]) Q E s := by
  refine callType_new F.called_enumerate (by decide) (F.typeCall_enumerate_1 _) (F.newCall_enumerate_1 _) (fun obj => F.args_object_init_2 obj _) F.entry_enumerate_new
    (z_meets_enum1 B) ⟨h1, ?_⟩
  have hz : (s.heap.push o).objs.size = s.heap.objs.size + 1 := Heap.size_push ..
  show _ ∧ _
  rw [hz]
  have he : IsEnum ((s.heap.push o).push { cls := .type "enumerate", data := .fields #[.none, .bool false, .ref s.heap.objs.size, rawInt 0, .none, .none] }) (s.heap.objs.size + 1) s.heap.objs.size 0 .none := by
    have := Heap.get?_push_size (s.heap.push o) (o := { cls := .type "enumerate", data := .fields #[.none, .bool false, .ref s.heap.objs.size, rawInt 0, .none, .none] }) rfl
    rw [hz] at this; exact this
  refine ⟨⟨_, he, rfl⟩, h _ he (Heap.get?_push_of_some _ (Heap.get?_push_size _ B.free)) (by rw [Heap.size_push, hz]) fun b o x => Heap.get?_push_of_some _ (Heap.get?_push_of_some _ x)⟩
end
end PySem
namespace Z
open PySem PySem.Spec PyProof.Rows L2
/-- a row that is read: a list, a tuple -/
def SqO (K : PySem.W.Frag) (t : Bool) (H : Hp) (a : Addr) (xs : List V) : Prop := match t with
  | true => SqT K H a xs
  | false => SqL K H a xs
def RI (t : Bool) (h : Heap) (it a : Addr) (i : Nat) : Prop := match t with
  | true => h.IsTupleIter it a i
  | false => h.IsListIter it a i
def RS (t : Bool) (h : Heap) (a : Addr) (items : Array Value) : Prop := match t with
  | true => h.IsTuple a items
  | false => h.IsList a items
def rObj (t : Bool) (a : Addr) : Obj := match t with
  | true => { cls := .type "tuple_iterator", data := .fields #[.ref a, .int 0 0] }
  | false => { cls := .type "list_iterator", data := .fields #[.ref a, .int 0 0] }
theorem ri_at {t : Bool} {h h' : Heap} {it a : Addr} {i : Nat} (x : RI t h it a i) (e : ∀ o, h.get? it = some o → h'.get? it = some o) : RI t h' it a i := by
  cases t with
  | true => exact Heap.IsTupleIter.at x e
  | false => exact Heap.IsListIter.at x e
theorem ri_obj {t : Bool} {h : Heap} {it a : Addr} {i : Nat} (x : RI t h it a i) : ∃ o, h.get? it = some o ∧ ∀ v, o.data ≠ .cell v := by
  cases t with
  | true => obtain ⟨o, e, _, d⟩ := x; exact ⟨o, e, fun v q => by rw [d] at q; cases q⟩
  | false => obtain ⟨o, e, _, d⟩ := x; exact ⟨o, e, fun v q => by rw [d] at q; cases q⟩
theorem ri_start {t : Bool} {h : Heap} {it a : Addr} (e : h.get? it = some (rObj t a)) : RI t h it a 0 := by
  cases t with
  | true => exact ⟨_, e, rfl, rfl⟩
  | false => exact ⟨_, e, rfl, rfl⟩
theorem r_begins (t : Bool) (a : Addr) (items : Array Value) : Begins (.ref a) (rObj t a) fun h => RS t h a items := by
  cases t with
  | true => exact begins_tuple a items
  | false => exact begins_list a items
theorem r_draws {t : Bool} {prog : Program} {w : World} {A : Around} (hh : A.handled = none) (it a : Addr) (hne : a ≠ it) (items : Array Value) :
    Draws prog w A it [it, a] items.size (fun i v => items[i]? = some v) (fun i h => RI t h it a i ∧ RS t h a items) := by
  cases t with
  | true => exact Draws.tuple hh it a hne items
  | false => exact Draws.list hh it a hne items
section
variable {X : Cx} {pins : List (Addr × Obj)} {σ : L2.St} {H : Hp} {s : Shared} {a : Addr} {xs ys : List V} {t : Bool}
theorem sqo_row (I : Inv X pins σ H s) (h : SqO X.K t H a xs) : ∃ its : List Value, Vals xs its ∧ RS t s.heap a its.toArray ∧ xs.length ≤ sizeLine := by
  cases t with
  | true =>
    obtain ⟨its, r, p, z⟩ := I.tuple h
    exact ⟨its, r, p, z⟩
  | false =>
    obtain ⟨its, r, p, z⟩ := I.list h
    exact ⟨its, r, p.isList, z⟩
theorem sqo_inj (I : Inv X pins σ H s) (h : SqO X.K t H a xs) (h' : SqO X.K t H a ys) : xs = ys := by
  cases t with
  | true => exact I.tuple_inj h h'
  | false => exact I.list_inj h h'
theorem rs_lt {h : Heap} {items : Array Value} (x : RS t h a items) : a < h.objs.size := by
  cases t with
  | true => obtain ⟨o, e, _⟩ := x; exact Heap.lt_size e
  | false => obtain ⟨o, e, _⟩ := x; exact Heap.lt_size e
end
/-! ### zip of rows of any kinds -/
def ItzG (K : PySem.W.Frag) (t u : Bool) (a b : Addr) : It :=
  ⟨fun i H => ∃ (xs ys : List V) (x y : V), SqO K t H a xs ∧ SqO K u H b ys ∧ xs[i]? = some x ∧ ys[i]? = some y,
    fun i H v H' => ∃ T x y, v = .ref T ∧ H T = none ∧ H' = upd H T (.tup [x, y]) ∧ (∀ xs, SqO K t H a xs → xs[i]? = some x) ∧ ∀ ys, SqO K u H b ys → ys[i]? = some y,
    fun i H => ∃ xs ys : List V, SqO K t H a xs ∧ SqO K u H b ys ∧ i ≤ xs.length ∧ i ≤ ys.length ∧ (xs.length = i ∨ ys.length = i)⟩
theorem turn_zipG {P : Program} {w : World} {K : PySem.W.Frag} {elts : List Expr} {kk : Nat} {tpos : Pos} {t u : Bool} {a b z TI TO i1 i2 : Addr} (D : ZipSep2 z TI TO i1 i2 [i1, a] [i2, b]) (h1a : a ≠ i1) (h2b : b ≠ i2) :
    Turn P w K (.Tuple elts kk tpos) (ItzG K t u a b) [z, TI, TO, i1, i2] z (fun i h => IsZip h z TI TO .none ∧ IsTupOf2 h TI (.ref i1) (.ref i2) ∧ (∃ x y, IsTupOf2 h TO x y) ∧ RI t h i1 a i ∧ RI u h i2 b i) where
  mem := by simp
  obj := fun i h st c hc => by
    obtain ⟨hz, hTI, ⟨x, y, hTO⟩, r1, r2⟩ := st
    have e' : c = z ∨ c = TI ∨ c = TO ∨ c = i1 ∨ c = i2 := by simpa using hc
    rcases e' with q | q | q | q | q
    · rw [q]; exact ⟨_, hz, fun v q => nomatch q⟩
    · rw [q]; exact ⟨_, hTI, fun v q => nomatch q⟩
    · rw [q]; exact ⟨_, hTO, fun v q => nomatch q⟩
    · rw [q]; exact ri_obj r1
    · rw [q]; exact ri_obj r2
  keep := fun i h h' st k => by
    obtain ⟨hz, hTI, ⟨x, y, hTO⟩, r1, r2⟩ := st
    exact ⟨k z (by simp) _ hz, k TI (by simp) _ hTI, ⟨x, y, k TO (by simp) _ hTO⟩, ri_at r1 fun o q => k i1 (by simp) o q, ri_at r2 fun o q => k i2 (by simp) o q⟩
  item := by
    intro X hP hw hK hc i pins s σ H E I hf st hg
    subst hP hw hK
    obtain ⟨hz, hTI, ⟨x0, y0, hTO⟩, r1, r2⟩ := st
    obtain ⟨xs, ys, x, y, hqx, hqy, hx, hy⟩ := hg
    obtain ⟨its, rv, p, _⟩ := sqo_row I hqx
    obtain ⟨its2, rv2, p2, _⟩ := sqo_row I hqy
    obtain ⟨v1, hv1, ru⟩ := rv.get hx
    obtain ⟨v2, hv2, ru2⟩ := rv2.get hy
    have hzl : z < s.heap.objs.size := Heap.lt_size hz
    have hh := I.ok.hd hc
    have hh1 : X.A.in1.handled = none := hh
    refine wpAny_pyNext_zipD2_item D (r_draws hh1 i1 a h1a its.toArray) (r_draws hh1 i2 b h2b its2.toArray) hz hTI hTO ⟨r1, p⟩ ⟨r2, p2⟩ (by simpa using (List.getElem?_eq_some_iff.mp hv1).1) (by simpa using (List.getElem?_eq_some_iff.mp hv2).1) fun x1 x2 h' tk P1 P2 z' TO' r1' r2' hT hsz hk => ?_
    have e1 : x1 = v1 := by have P1 : its.toArray[i]? = some x1 := P1; simp at P1; rw [hv1] at P1; exact (Option.some.inj P1).symm
    have e2 : x2 = v2 := by have P2 : its2.toArray[i]? = some x2 := P2; simp at P2; rw [hv2] at P2; exact (Option.some.inj P2).symm
    subst e1 e2
    refine ⟨_, rfl, wpAny_letOwnedTupleGo_zip (s := { s with heap := h', toks := tk }) z' fun h'' z'' sb => ?_⟩
    have hT2 : h''.get? s.heap.objs.size = some { cls := .type "tuple", data := .seq #[x1, x2] } := (sb.2 _ (Nat.ne_of_gt hzl)).trans hT
    have new : ObjOk X.prog X.w (upd H s.heap.objs.size (.tup [x, y])) h'' s.heap.objs.size (.tup [x, y]) :=
      ⟨by show 2 ≤ sizeLine; decide, [x1, x2], .cons ru (.cons ru2 .nil), ⟨_, hT2, rfl, _, rfl⟩⟩
    have I1 : Inv X pins σ (upd H s.heap.objs.size (.tup [x, y])) { s with heap := h'', toks := tk } :=
      I.turnedNew (t' := tk) (ch := [z, TI, TO, i1, i2]) (fun c o hb q => (sb.2 c (fun q' => hb (by simp [q']))).trans (hk c o (fun q' => hb (by simp [q'])) (fun q' => hb (by simp [q'])) (fun q' => hb (by simp [q'])) (fun q' => hb (by simp [q'])) q)) hf (Nat.le_refl _) new
    have i1z : i1 ≠ z := fun e => D.zf1 (by simp [e])
    have i2z : i2 ≠ z := fun e => D.zf2 (by simp [e])
    refine ⟨.ref s.heap.objs.size, _, I1, rfl, ⟨_, x, y, rfl, I.hok.fresh (Nat.le_refl _), rfl, fun l hl => by rw [sqo_inj I hl hqx]; exact hx, fun l hl => by rw [sqo_inj I hl hqy]; exact hy⟩, ⟨z'', ?_, ⟨x1, x2, ?_⟩, ?_, ?_⟩, fun c hcm => ?_⟩
    · exact (sb.2 _ D.TIz).trans (hk _ _ D.TIz D.TITO D.TIi1 D.TIi2 hTI)
    · exact (sb.2 _ D.TOz).trans TO'
    · exact ri_at r1'.1 fun o q => (sb.2 _ i1z).trans q
    · exact ri_at r2'.1 fun o q => (sb.2 _ i2z).trans q
    · have hlt : c < s.heap.objs.size := by
        have e' : c = z ∨ c = TI ∨ c = TO ∨ c = i1 ∨ c = i2 := by simpa using hcm
        rcases e' with q | q | q | q | q
        · rw [q]; exact hzl
        · rw [q]; exact Heap.lt_size hTI
        · rw [q]; exact Heap.lt_size hTO
        · rw [q]; obtain ⟨_, e1, _⟩ := ri_obj r1; exact Heap.lt_size e1
        · rw [q]; obtain ⟨_, e2, _⟩ := ri_obj r2; exact Heap.lt_size e2
      rw [upd_ne (Nat.ne_of_lt hlt)]
      exact (hf c hcm).1
  done := by
    intro X hP hw hK hc i pins s σ H E I hf st hg
    subst hP hw hK
    obtain ⟨hz, hTI, ⟨x0, y0, hTO⟩, r1, r2⟩ := st
    obtain ⟨xs, ys, hqx, hqy, hl1, hl2, hend⟩ := hg
    obtain ⟨its, rv, p, _⟩ := sqo_row I hqx
    obtain ⟨its2, rv2, p2, _⟩ := sqo_row I hqy
    have l1 := rv.length
    have l2 := rv2.length
    have hh1 : X.A.in1.handled = none := I.ok.hd hc
    exact wpAny_pyNext_zipD2_end D (r_draws hh1 i1 a h1a its.toArray) (r_draws hh1 i2 b h2b its2.toArray) hz hTI hTO ⟨r1, p⟩ ⟨r2, p2⟩ (by simp; omega) (by simp; omega) (by simp; omega) fun h' tk hk => ⟨rfl, I.turnedL (t' := tk) (ch := [z, TI, TO, i1, i2]) (fun c o hb q =>
      hk c o (fun q' => hb (by simp [q'])) (fun q' => hb (by simp [q'])) (fun q' => hb (by simp [q'])) (fun q' => hb (by simp [q'])) q) hf⟩
  self := fun A i s Q E st h => wpAny_pyIter_zip st.1 h
def iZipG (K : PySem.W.Frag) (ta : TA) : TI := fun σ H R => ta σ H fun vs H1 => ∃ t u a b xs ys, vs = [.ref a, .ref b] ∧ SqO K t H1 a xs ∧ SqO K u H1 b ys ∧ R (ItzG K t u a b) H1
theorem pi_zipG {X : Cx} {e e2 : Expr} {ta : TA} {p pos tpos : Pos} {elts : List Expr} {kk : Nat} (hg : Gl X "zip") (hm : X.mg "zip" = none) (ha : PA X [e, e2] ta)
    (hs : starEach [e, e2] X.env = (false, eval e X.env) :: starEach [e2] X.env := by rfl) (hpl : (backTo pos (starEach [e2] X.env)).any (·.1) = false := by rfl) :
    PI X (.Tuple elts kk tpos) (.Call (.Name "zip" p) [e, e2] [] pos) (iZipG X.K ta) := by
  refine ⟨fun pins s σ H R I h => ?_⟩
  refine Call_ (ld_blt I hg hm PyProof.Rows.boot_zip (PyProof.Rows.callWith_type1 (thn (ha.run pos pins s σ H _ I h) fun us s1 ⟨vs, H1, I1, r1, q1⟩ => ?_) hs hpl))
  obtain ⟨t, u, a, b, xs, ys, ex, hqx, hqy, q⟩ := q1
  subst ex
  cases r1 with
  | cons r rr =>
    cases rr with
    | cons r' rr =>
      cases rr
      cases r
      cases r'
      have fresh5 : ∀ c, c ∈ [s1.heap.objs.size + 4, s1.heap.objs.size + 2, s1.heap.objs.size + 3, s1.heap.objs.size, s1.heap.objs.size + 1] → FpOk X pins H1 c := fun c hcm => by
        have e' : c = s1.heap.objs.size + 4 ∨ c = s1.heap.objs.size + 2 ∨ c = s1.heap.objs.size + 3 ∨ c = s1.heap.objs.size ∨ c = s1.heap.objs.size + 1 := by simpa using hcm
        have hle : s1.heap.objs.size ≤ c := by
          rcases e' with z | z | z | z | z
          · rw [z]; exact Nat.le_add_right _ _
          · rw [z]; exact Nat.le_add_right _ _
          · rw [z]; exact Nat.le_add_right _ _
          · rw [z]; exact Nat.le_refl _
          · rw [z]; exact Nat.le_add_right _ _
        exact I1.fpOk hle (I1.hok.fresh hle)
      obtain ⟨its, rv, p1, _⟩ := sqo_row I1 hqx
      obtain ⟨its2, rv2, p2, _⟩ := sqo_row I1 hqy
      have la := rs_lt p1
      have lb := rs_lt p2
      refine zip_begins2 (r_begins t a its.toArray) (r_begins u b its2.toArray) p1 p2 fun h' hz hTI hTO h1 h2 hsz hk => wpAny_pyIter_zip hz ?_
      have I2 : Inv X pins σ H1 { s1 with heap := h' } := I1.kept (t' := s1.toks) hk
      exact ⟨s1.heap.objs.size + 4, [s1.heap.objs.size + 4, s1.heap.objs.size + 2, s1.heap.objs.size + 3, s1.heap.objs.size, s1.heap.objs.size + 1], _, _, H1, rfl, I2,
        turn_zipG (zip_sep2 (N := s1.heap.objs.size) (fp1 := [a]) (fp2 := [b]) (fun c hc => by simp at hc; rw [hc]; exact la) (fun c hc => by simp at hc; rw [hc]; exact lb)) (Nat.ne_of_lt la) (Nat.ne_of_lt (Nat.lt_succ_of_lt lb)), ⟨hz, hTI, ⟨_, _, hTO⟩, ri_start h1, ri_start h2⟩, fresh5, q⟩
/-! ### enumerate of a row of any kind -/
def IteG (K : PySem.W.Frag) (t : Bool) (a : Addr) : It :=
  ⟨fun i H => ∃ (xs : List V) (x : V), SqO K t H a xs ∧ xs[i]? = some x, fun i H v H' => ∃ T x, v = .ref T ∧ H T = none ∧ H' = upd H T (.tup [.int (i : Nat), x]) ∧ ∀ xs, SqO K t H a xs → xs[i]? = some x,
    fun i H => ∃ xs : List V, SqO K t H a xs ∧ xs.length = i⟩
theorem turn_enumG {P : Program} {w : World} {K : PySem.W.Frag} {elts : List Expr} {kk : Nat} {tpos : Pos} {t : Bool} (a e it : Addr) (hai : a ≠ it) (hae : e ≠ a) :
    Turn P w K (.Tuple elts kk tpos) (IteG K t a) [e, it] e (fun i h => (∃ old, IsEnum h e it ((i : Nat) : Int) old) ∧ RI t h it a i ∧ e ≠ it) where
  mem := by simp
  obj := fun i h st b hb => by
    obtain ⟨⟨old, he⟩, r1, _⟩ := st
    have e' : b = e ∨ b = it := by simpa using hb
    rcases e' with z | z
    · rw [z]; exact ⟨_, he, fun v q => nomatch q⟩
    · rw [z]; exact ri_obj r1
  keep := fun i h h' st k => let ⟨⟨old, he⟩, hi, hne⟩ := st; ⟨⟨old, k e (by simp) _ he⟩, ri_at hi fun o q => k it (by simp) o q, hne⟩
  item := by
    intro X hP hw hK hc i pins s σ H E I hf st hg
    subst hP hw hK
    obtain ⟨⟨old, he⟩, hit, hne⟩ := st
    obtain ⟨xs, x, hq, hx⟩ := hg
    obtain ⟨its, rv, p, hz⟩ := sqo_row I hq
    obtain ⟨u, hu, ru⟩ := rv.get hx
    have hel : e < s.heap.objs.size := Heap.lt_size he
    have hil : it < s.heap.objs.size := by obtain ⟨_, q, _⟩ := ri_obj hit; exact Heap.lt_size q
    have hh1 : X.A.in1.handled = none := I.ok.hd hc
    refine wpAny_pyNext_enum_itemD (r_draws hh1 it a hai its.toArray) he ⟨hit, p⟩ (by simpa using (List.getElem?_eq_some_iff.mp hu).1) hne (fun q => by
      rcases List.mem_cons.mp q with z | z
      · exact hne z
      · exact hae (List.mem_singleton.mp z)) fun x1 h' tk P1 ho hit' hT hsz hk => ?_
    have e1 : x1 = u := by have P1 : its.toArray[i]? = some x1 := P1; simp at P1; rw [hu] at P1; exact (Option.some.inj P1).symm
    subst e1
    refine ⟨_, rfl, wpAny_letOwnedTupleGo_enum (s := { s with heap := h', toks := tk + 1 }) ho fun h'' he' sb => ?_⟩
    have hT2 : h''.get? s.heap.objs.size = some { cls := .type "tuple", data := .seq #[.int i tk, x1] } := (sb.2 _ (Nat.ne_of_gt hel)).trans hT
    have new : ObjOk X.prog X.w (upd H s.heap.objs.size (.tup [.int (i : Nat), x])) h'' s.heap.objs.size (.tup [.int (i : Nat), x]) :=
      ⟨by show 2 ≤ sizeLine; decide, [.int i tk, x1], .cons ⟨_, rfl⟩ (.cons ru .nil), ⟨_, hT2, rfl, _, rfl⟩⟩
    have I1 : Inv X pins σ (upd H s.heap.objs.size (.tup [.int (i : Nat), x])) { s with heap := h'', toks := tk + 1 } :=
      I.turnedNew (ch := [e, it]) (fun b ob hb q => (sb.2 b (fun z => hb (by simp [z]))).trans (hk b ob (fun z => hb (by simp [z])) (fun z => hb (by simp [z])) q)) hf (Nat.le_refl _) new
    refine ⟨.ref s.heap.objs.size, _, I1, rfl, ⟨_, x, rfl, I.hok.fresh (Nat.le_refl _), rfl, fun ys hy => by rw [sqo_inj I hy hq]; exact hx⟩, ⟨⟨x1, ?_⟩, ri_at hit'.1 fun o q => (sb.2 it (Ne.symm hne)).trans q, hne⟩, fun b hb => ?_⟩
    · have e1 : ((i + 1 : Nat) : Int) = (i : Int) + 1 := by omega
      rw [e1]; exact he'
    · have hb' : b < s.heap.objs.size := by
        have e' : b = e ∨ b = it := by simpa using hb
        rcases e' with z | z
        · rw [z]; exact hel
        · rw [z]; exact hil
      rw [upd_ne (Nat.ne_of_lt hb')]
      exact (hf b hb).1
  done := by
    intro X hP hw hK hc i pins s σ H E I hf st hg
    subst hP hw hK
    obtain ⟨⟨old, he⟩, hit, hne⟩ := st
    obtain ⟨xs, hq, hx⟩ := hg
    obtain ⟨its, rv, p, hz⟩ := sqo_row I hq
    obtain ⟨f0, f1, f2, f3, f4, f5⟩ := hf it (by simp)
    have hl := rv.length
    have hh1 : X.A.in1.handled = none := I.ok.hd hc
    have e0 : i = its.toArray.size := by simp; omega
    exact wpAny_pyNext_enum_endD (r_draws hh1 it a hai its.toArray) he (by rw [← e0]; exact ⟨hit, p⟩) fun h' eb => ⟨rfl, I.turned (t' := s.toks) (fun b o hb q => eb b o hb q) f0 f1 f3 f4 f5⟩
  self := fun A i s Q E st h => let ⟨⟨_, he⟩, _⟩ := st; wpAny_pyIter_enum he h
def iEnumG (K : PySem.W.Frag) (ta : TA) : TI := fun σ H R => ta σ H fun vs H1 => ∃ t a xs, vs = [.ref a] ∧ SqO K t H1 a xs ∧ R (IteG K t a) H1
theorem pi_enumG {X : Cx} {e : Expr} {ta : TA} {p pos tpos : Pos} {elts : List Expr} {kk : Nat} (hg : Gl X "enumerate") (hm : X.mg "enumerate" = none) (ha : PA X [e] ta) (hs : starEach [e] X.env = [(false, eval e X.env)] := by rfl) :
    PI X (.Tuple elts kk tpos) (.Call (.Name "enumerate" p) [e] [] pos) (iEnumG X.K ta) := by
  refine ⟨fun pins s σ H R I h => ?_⟩
  refine Call_ (ld_blt I hg hm PyProof.Rows.boot_enumerate (PyProof.Rows.callWith_type1 (thn (ha.run pos pins s σ H _ I h) fun us s1 ⟨vs, H1, I1, r1, q1⟩ => ?_) hs rfl))
  obtain ⟨t, a, xs, ex, hq, q⟩ := q1
  subst ex
  cases r1 with
  | cons r rr =>
    cases rr
    cases r
    obtain ⟨its, rv, p', hz⟩ := sqo_row I1 hq
    have la := rs_lt p'
    refine z_enum_begins (r_begins t a its.toArray) p' fun h' he hit hsz hk => wpAny_pyIter_enum he ?_
    have I2 : Inv X pins σ H1 { s1 with heap := h' } := I1.kept (t' := s1.toks) hk
    refine ⟨s1.heap.objs.size + 1, [s1.heap.objs.size + 1, s1.heap.objs.size], _, _, H1, rfl, I2, turn_enumG a (s1.heap.objs.size + 1) s1.heap.objs.size (Nat.ne_of_lt la) (Nat.ne_of_gt (Nat.lt_succ_of_lt la)), ⟨⟨.none, he⟩, ri_start hit, Nat.succ_ne_self _⟩, fun b hb => ?_, q⟩
    have e' : b = s1.heap.objs.size + 1 ∨ b = s1.heap.objs.size := by simpa using hb
    have hle : s1.heap.objs.size ≤ b := by
      rcases e' with z | z
      · rw [z]; exact Nat.le_add_right _ _
      · rw [z]; exact Nat.le_refl _
    exact I1.fpOk hle (I1.hok.fresh hle)
section
variable {X : Cx} {a b : Expr} {σ : L2.St} {F W W1 : Hp} {pos p tpos : Pos} {elts : List Expr} {kk : Nat}
theorem sqo_of {K : PySem.W.Frag} {F W H : Hp} {t : Bool} {l : Addr} {vs : List V} (w : Wd F W H) (h : F l = some (sqO t vs)) : SqO K t H l vs := by
  cases t with
  | true => exact SqT.of (w.tup h)
  | false => exact SqL.of (w.lst h)
theorem ei_enum {t : Bool} {xs : List D} (hm : X.mg "enumerate" = none) (h : EvA X [a] σ F W [.sq t xs] W1) (hg : Gl X "enumerate" := by rfl) (hs : starEach [a] X.env = [(false, eval a X.env)] := by rfl) :
    EvI X (.Tuple elts kk tpos) (.Call (.Name "enumerate" p) [a] [] pos) σ F W (enumD xs) W1 := fun H w R q =>
  tmI_of (pi_enumG hg hm pa_tm hs) (h H w _ fun v F1 H1 g r => by
    cases r with
    | cons r t' =>
    cases t'
    obtain ⟨l, vs, rfl, h1, s1, z1⟩ := r.sq_inv
    have el : (enumD xs).length = vs.length := by unfold enumD; rw [List.length_map, List.length_zipIdx, s1.length]
    refine ⟨t, l, vs, rfl, sqo_of g.st h1, q _ (fun H => SqO X.K t H l vs) (fun i H x H' => ∃ T y, x = .ref T ∧ H T = none ∧ H' = upd H T (.tup [.int (i : Nat), y]) ∧ vs[i]? = some y) F1 H1 g ?_ (fun F2 W2 H2 e w2 => sqo_of w2 (e _ _ h1)) fun i F2 W2 H2 H3 x d e w2 y hd => ?_⟩
    · rw [el]
      exact ⟨fun i H hi hq => ⟨vs, vs[i], hq, by simp [hi]⟩, fun H hq => ⟨vs, hq, rfl⟩, fun i H x H' hi hq ⟨T, y, e1, e2, e3, e4⟩ => ⟨T, y, e1, e2, e3, e4 vs hq⟩⟩
    · rw [enumD_get, Option.map_eq_some_iff] at hd
      obtain ⟨d', hd', rfl⟩ := hd
      obtain ⟨T, y, rfl, hT, rfl, hy⟩ := y
      obtain ⟨d2, hd2, r2⟩ := s1.get hy
      rw [hd'] at hd2; cases hd2
      exact ⟨_, Go.new w2 hT, Go.rep_new (t := true) w2 hT (.cons (.int _) (.cons (r2.mono e) .nil)) (by simp)⟩)
theorem ei_zipG {t u : Bool} {xs ys : List D} (hm : X.mg "zip" = none) (h : EvA X [a, b] σ F W [.sq t xs, .sq u ys] W1) (hg : Gl X "zip" := by rfl) (hs : starEach [a, b] X.env = (false, eval a X.env) :: starEach [b] X.env := by rfl) (hpl : (backTo pos (starEach [b] X.env)).any (·.1) = false := by rfl) :
    EvI X (.Tuple elts kk tpos) (.Call (.Name "zip" p) [a, b] [] pos) σ F W (zipD xs ys) W1 := fun H w R q =>
  tmI_of (pi_zipG hg hm pa_tm hs hpl) (h H w _ fun v F1 H1 g r => by
    cases r with
    | cons r t' =>
    cases t' with
    | cons r2 t' =>
    cases t'
    obtain ⟨l, vs, rfl, h1, s1, z1⟩ := r.sq_inv
    obtain ⟨l2, us, rfl, h2, s2, z2⟩ := r2.sq_inv
    have el : (zipD xs ys).length = min vs.length us.length := by unfold zipD; rw [List.length_map, List.length_zip, s1.length, s2.length]
    refine ⟨t, u, l, l2, vs, us, rfl, sqo_of g.st h1, sqo_of g.st h2, q _ (fun H => SqO X.K t H l vs ∧ SqO X.K u H l2 us) (fun i H x H' => ∃ T y z, x = .ref T ∧ H T = none ∧ H' = upd H T (.tup [y, z]) ∧ vs[i]? = some y ∧ us[i]? = some z) F1 H1 g ?_ (fun F2 W2 H2 e w2 => ⟨sqo_of w2 (e _ _ h1), sqo_of w2 (e _ _ h2)⟩) fun i F2 W2 H2 H3 x d e w2 y hd => ?_⟩
    · rw [el]
      refine ⟨fun i H hi hq => ?_, fun H hq => ⟨vs, us, hq.1, hq.2, by omega, by omega, by omega⟩, fun i H x H' hi hq ⟨T, y, z, e1, e2, e3, e4, e5⟩ => ⟨T, y, z, e1, e2, e3, e4 vs hq.1, e5 us hq.2⟩⟩
      have h1 : i < vs.length := by omega
      have h2 : i < us.length := by omega
      exact ⟨vs, us, vs[i], us[i], hq.1, hq.2, by simp [h1], by simp [h2]⟩
    · unfold zipD at hd
      rw [List.getElem?_map, Option.map_eq_some_iff] at hd
      obtain ⟨⟨da, db⟩, hd', rfl⟩ := hd
      rw [List.getElem?_zip_eq_some] at hd'
      obtain ⟨T, y, z, rfl, hT, rfl, hy, hz⟩ := y
      obtain ⟨d1, hd1, q1⟩ := s1.get hy
      obtain ⟨d2, hd2, q2⟩ := s2.get hz
      rw [hd'.1] at hd1; cases hd1
      rw [hd'.2] at hd2; cases hd2
      exact ⟨_, Go.new w2 hT, Go.rep_new (t := true) w2 hT (.cons (q1.mono e) (.cons (q2.mono e) .nil)) (by simp)⟩)
end
end Z
set_option Elab.async false
set_option linter.all false
set_option maxRecDepth 100000
set_option maxHeartbeats 1000000
namespace PySem.W
open PySem PySem.Calls PyProof.Rows Builtin
section
variable {prog : Program} {w : World} {A : Around} {E : Value → Shared → Prop} {s : Shared} {K : Frag} {x C L f : Addr} {h₀ : Heap} {m : Str → Option Value} {ox : Obj} {od : Option Obj} {name : Str} {b tb : Value}
theorem z_ifBound_B {M : Model} {id : String} {args : List Value} {Q : Option Value → Shared → Prop} (X : K.In s.heap) (I : InstAt s.heap x ox C od) (hs : findIn K (.ref C) name = some (some (.builtin id)))
    (hb : ∀ self, bindSpecial (.builtin id) self = pure (.builtin id, [self])) (h : wpAny M A (call (.builtin id) (.ref x :: args)) (fun v => Q (some v)) E s) : wpAny M A (callSpecialIfBound? (.ref x) name args) Q E s := by
  simp only [callSpecialIfBound?, bindSpecialIfBound?]
  refine wpAny_holding (wpAny_bind (wpAny_bind (wpAny_bind (I.type.here ((looks_findIn X hs).here ?_)))))
  refine wpAny_bind (wpAny_askSetting (wpAny_ite ?_))
  have fin : wpAny M A (call (.builtin id) ([.ref x] ++ args) >>= fun v => pure (some v)) Q E s := wpAny_bind (wpAny_mono h (fun v s' h' => wpAny_pure h') fun _ _ h' => h')
  split
  · exact wpAny_bind ((Looks.of_pure (hb _)).here (wpAny_pure (by exact fin)))
  · exact wpAny_tryCatch (wpAny_bind ((Looks.of_pure (hb _)).here (wpAny_pure (by exact fin))))
theorem z_check_ne {M : Model} {Q : Unit → Shared → Prop} (X : K.In s.heap) (I : InstAt s.heap x ox C od) (hm : mroIn K C (.type "object") = some true) (hq : Q () s) : wpAny M A (checkBuiltinCall "object.__ne__" ⟨.ref x :: [b], []⟩) Q E s := by
  simp only [checkBuiltinCall, PySem.F.cmpKind_ne, PySem.F.cmpSplit_ne]
  refine wpAny_bind ?_
  unfold isInstance
  refine wpAny_bind (I.type.here ((looks_mroIn X hm).here ?_))
  have ha := PySem.F.cmpArgs_ne (.ref x) b
  cases hsig : Manifest.signature? "object.__ne__" with
  | none => exact wpAny_pure hq
  | some sig =>
    simp only [argsOk, hsig] at ha
    show wpAny M A (Bind.checkArgs "object.__ne__" sig ⟨.ref x :: [b], []⟩) Q E _
    rw [ha]; exact wpAny_pure hq
theorem z_ne_bind (self : Value) : bindSpecial (.builtin "object.__ne__") self = pure (.builtin "object.__ne__", [self]) :=
  (Slot.of (T := "object") (name := "__ne__") (owner := "object") (n := "__ne__") (by rw [typeLookup_type, builtinLookup_eq_fast]; kernel_rfl) (by decide +kernel) (by decide +kernel) (by decide +kernel)
    (.inl (by decide +kernel)) (by rw [isSubtype_type]; kernel_rfl)).bind self
/-- a != b by an own __eq__, no __ne__ -/
theorem z_ne_K {Q : Value → Shared → Prop} (hu : A.units + 1 < cLine) (F : Fr h₀ L s.heap m) (X₀ : K.In h₀) (I : InstAt s.heap x ox C od) (hb : Looks (model prog w) s.heap (typeOf b) tb) (hn : notFirst K C tb = true)
    (hne : findIn K (.ref C) "__ne__" = some (some (.builtin "object.__ne__"))) (hm : mroIn K C (.type "object") = some true) (hs : findIn K (.ref C) "__eq__" = some (some (.ref f))) (hf : isFn K (.ref f) = true) (hpl : plainId "object.__ne__" = true)
    (h : wpAny (model prog w) A.in1 (call (.ref f) [.ref x, b]) (fun v s' => ∃ k, v = .bool k ∧ Q (.bool (!k)) s') E s) : wpAny (model prog w) A (richCompare .NotEq (.ref x) b) Q E s := by
  have X := X₀.keeps F.keep
  have hu1 : A.in1.units < cLine := hu
  have one : wpAny (model prog w) A (tryCompare (.ref x) "__ne__" b) (fun r s' => ∃ v, r = some v ∧ Q v s') E s := by
    unfold tryCompare
    refine wpAny_bind (z_ifBound_B X I hne z_ne_bind (wpAny_call (codeAny_call_builtin hpl PySem.F.cmpEntry_ne (z_check_ne X I hm ?_))))
    unfold Builtin.«object.__ne__»
    repeat (first
      | with_reducible refine wpAny_cRoomFor hu1 ?_
      | (refine wpAny_bind (m := callSpecialIfBound? (.ref x) (Str.ofString "__eq__") [b]) (ifBound_K X I hs hf (wpAny_mono h (fun r s' hr => by
          obtain ⟨k, rfl, hq⟩ := hr
          repeat (first
            | (refine wpAny_bind (m := truthy (.bool _)) (wpAny_truthy_bool ?_))
            | exact ⟨_, rfl, hq⟩ | exact ⟨_, rfl, wpAny_pure hq⟩ | exact wpAny_pure ⟨_, rfl, hq⟩ | exact ⟨_, rfl, wpAny_pure ⟨_, rfl, hq⟩⟩ | exact wpAny_pure ⟨_, rfl, wpAny_pure ⟨_, rfl, hq⟩⟩ | wp_step)) fun _ _ y => y)))
      | wp_step)
  unfold richCompare
  simp only [oneThing_ref]
  rw [cmpInfo_NotEq]
  refine wpAny_holding (wpAny_bind (wpAny_cRoomFor (Nat.lt_of_succ_lt hu) ?_))
  refine wpAny_bind (I.type.here (wpAny_bind (hb.here ?_)))
  dsimp only
  split
  · rename_i q
    have e : subIn K tb (.ref C) = some false := by
      rcases Bool.or_eq_true_iff.mp hn with e | e
      · rw [beq_iff_eq.mp e] at q; simp at q
      · exact beq_iff_eq.mp e
    refine wpAny_bind ((looks_subIn X e).here ?_)
    simp only [Bool.false_eq_true, if_false]
    refine wpAny_bind (wpAny_mono one (fun r s' z => ?_) fun _ _ e => e)
    obtain ⟨v, rfl, hq⟩ := z
    exact wpAny_pure hq
  · refine wpAny_bind (wpAny_pure ?_)
    simp only [Bool.false_eq_true, if_false]
    refine wpAny_bind (wpAny_mono one (fun r s' z => ?_) fun _ _ e => e)
    obtain ⟨v, rfl, hq⟩ := z
    exact wpAny_pure hq
end
end PySem.W
namespace ZBool
open PySem PyProof.Rows
open PySem.Sem (wp)
section
variable {prog : Program} {w : World}
theorem meets_bool {v : Value} : MeetsIn prog w (Builtin.«bool.__new__» ⟨[.type "bool", v], []⟩) (fun A R s => wpAny (model prog w) A.in1 (truthy v) (fun k s' => ∀ tk, R (.ok (.ret (.bool k))) { s' with toks := tk }) (fun e s' => R (.error e) s') s) :=
  MeetsIn.of_wp fun A R s hs => by
    obtain ⟨hp, g, d, tk, os⟩ := s
    have f1 := F.conv_sub_bool
    repeat (any_goals (first | assumption | (with_reducible refine wpAny_mono hs (fun k s' hk => ?_) fun _ _ y => y) | wp_step))
    all_goals first | exact ⟨_, rfl, hk _⟩ | skip
theorem call_bool {A : Around} {E : Value → Shared → Prop} {s : Shared} {v : Value} {Q : Value → Shared → Prop} (h : wpAny (model prog w) A.in1.in1 (truthy v) (fun k s' => ∀ tk, Q (.bool k) { s' with toks := tk }) E s) : wpAny (model prog w) A (call (.type "bool") [v]) Q E s :=
  callType_newIn F.called_bool F.newNe_bool (F.typeCall_bool_1 v) (F.newCall_bool_1 v) (fun obj => F.args_object_init_2 obj v) F.entry_bool_new meets_bool (wpAny_mono h (fun k s' hk tk => ⟨rfl, hk tk⟩) fun _ _ y => y)
end
end ZBool
set_option Elab.async false
set_option linter.all false
set_option maxRecDepth 100000
set_option maxHeartbeats 1000000
namespace Z
open PySem PySem.Spec PyProof.Rows L2
/-! ## own classes -/
structure ClsF (K : PySem.W.Frag) (C : Addr) : Prop where
  cls : Cls K C
  ne : PySem.W.findIn K (.ref C) "__ne__" = some (some (.builtin "object.__ne__"))
  obj : PySem.W.mroIn K C (.type "object") = some true
  ha : PySem.W.findIn K (.ref C) "__class__" = some (some (.builtin "object.__class__"))
  hn : PySem.W.specialIn K (.builtin "object.__class__") "__get__" = some (some (.builtin "getset_descriptor.__get__"))
  tk : PySem.W.takesIn K (.builtin "object.__class__") = some true
/-- a method: its def at f, what it promises -/
structure MeD (P : Program) (w : World) (K : PySem.W.Frag) (mg : Str → Option Value) (base : Heap) (k : Nat) (C : Addr) (m : Str) (ps : List Str) (rel : Rel) : Prop where
  ex : ∃ f fd, FnOk P w K mg base CX0 k f fd ps (spG rel) ∧ Meth K C m f ∧ Binds K fd ps []
section
variable {F : Hp}
theorem RepF.keys {vs : List (Str × V)} {ds : List (Str × D)} (r : RepF F vs ds) (m : Str) : ds.lookup m = none → vs.lookup m = none := by
  induction ds generalizing vs with
  | nil => intro _; cases r; rfl
  | cons p ds ih =>
    intro h
    cases r with
    | cons rv rt =>
      rw [List.lookup_cons] at h ⊢
      split at h
      · cases h
      · exact ih rt h
theorem RepF.get {vs : List (Str × V)} {ds : List (Str × D)} (r : RepF F vs ds) {m : Str} {d : D} : ds.lookup m = some d → ∃ v, vs.lookup m = some v ∧ Rep F v d := by
  induction ds generalizing vs with
  | nil => intro h; cases h
  | cons p ds ih =>
    intro h
    cases r with
    | cons rv rt =>
      rw [List.lookup_cons] at h ⊢
      split at h
      · cases h
        exact ⟨_, rfl, rv⟩
      · exact ih rt h
theorem Rep.ob_inv {v : V} {C : Addr} {ds : List (Str × D)} (r : Rep F v (.ob C ds)) : ∃ a dx vs, v = .ref a ∧ F a = some (.ins C dx vs) ∧ RepF F vs ds := by
  cases r with
  | ob h r => exact ⟨_, _, _, rfl, h, r⟩
end
section
variable {X : Cx} {e a b c o : Expr} {es : List Expr} {σ : L2.St} {F F1 W W1 W2 W3 : Hp} {d d1 d2 d3 : D} {ds : List D} {fds gds : List (Str × D)} {q q1 q2 : Bool} {pos p apos : Pos} {i j : Int} {k n : Nat} {C C2 : Addr} {A : AE} {rest : List Stmt} {m f : Str} {ps : List Str} {rel : Rel}
theorem ev_fld (h : EvS X e σ F W (.ob C fds) W1) (c : Cls X.K C) (na : NoAttr X.K C f) (hl : fds.lookup f = some d) (hb : attributeBase e f X.env (eval e X.env) = eval e X.env := by rfl) : EvS X (.Attribute e f pos) σ F W d W1 := fun H w Q q =>
  tm_of (pe_fld pe_tm hb) (h H w _ fun v F' H' g r => by
    obtain ⟨a, dx, vs, rfl, h1, r1⟩ := r.ob_inv
    obtain ⟨v, hv, rv⟩ := r1.get hl
    exact ⟨a, C, dx, vs, v, rfl, g.st.ins h1, c, na, hv, q v F' H' g rv⟩)
/-- a def runs, wherever there is room -/
theorem call_at {g : Addr} {fd : FuncData} {A' : Around} {pins : List (Addr × Obj)} {s : Shared} {H : Hp} {Q : VK} {us : List Value} {vs : List V} (Fn : FnOk X.prog X.w X.K X.mg X.base CX0 n g fd ps (spG rel)) (hb : Binds X.K fd ps []) (hr : Room n A') (hf : A'.frames = X.A.frames)
    (I : Inv X pins σ H s) (r : Vals vs us) (h : spG rel vs H Q E0) : wpAny (model X.prog X.w) A' (call (.ref g) us) (EP X pins σ Q) X.xe s := by
  have e0 : Env0 X.prog X.w X.K X.mg X.base A' X.stack s H := by
    have e := I.env0
    exact ⟨by rw [hf]; exact e.frames, e.mod, e.bs, e.bsz, e.funs, e.frf, e.hok, e.bare⟩
  have hl : us.length = ps.length := by rw [← r.length]; exact Fn.len _ _ _ _ h
  have hb' := hb s us I.kIn (by simpa using hl)
  rw [List.append_nil] at hb'
  refine wpAny_call (codeAny_mono (Fn.run A' X.stack s H ⟨us, []⟩ us vs Q E0 hr e0 hb' r h) fun r s' hq => ?_)
  cases r with
  | error e => exact (show False from hq).elim
  | ok fl =>
    cases fl with
    | ret u => exact I.after hq
    | next => exact False.elim hq
    | brk => exact False.elim hq
    | cont => exact False.elim hq
/-- o.m(e, ..) -/
theorem ev_meth (h : EvS X o σ F W (.ob C fds) W1) (cl : ClsF X.K C) (Me : MeD X.prog X.w X.K X.mg X.base k C m ps rel) (hr : Room k X.A) (hm : fds.lookup m = none) (ha : EvA X (e :: es) σ F W1 ds W2) (hrel : ∀ F1, Same F F1 → rel (.ob C fds :: ds) F1 W2 d W3)
    {pl : Sem Bool} (hst : starEach (e :: es) X.env = (false, eval e X.env) :: starEach es X.env := by rfl) (hpl : (backTo pos (starEach es X.env)).any (·.1) = false := by rfl)
    (ht : eval (.Call (.Attribute o m apos) (e :: es) [] pos) X.env = (do
      let ov ← eval o X.env
      standAt apos.atName
      let (f, first) ← holding [ov] (getMethod ov m pl)
      callWith pos f first (backTo pos (starEach (e :: es) X.env)) (backToKw pos (keywordEach [] X.env))) := by rfl) : EvS X (.Call (.Attribute o m apos) (e :: es) [] pos) σ F W d W3 := fun H w Q q => by
  obtain ⟨f, fd, hF, hM, hb⟩ := Me.ex
  refine tm_of (pe_meth (E := E0) pe_tm cl.cls hM hF hr hb .nil pass0 pa_tm hst hpl ht) (h H w _ fun v F1 H1 g r => ?_)
  obtain ⟨a, dx, vs, rfl, h1, r1⟩ := r.ob_inv
  refine ⟨a, dx, vs, rfl, g.st.ins h1, r1.keys m hm, ha.mono g.ex H1 g.st _ fun us F2 H2 g2 r2 => ?_⟩
  show spG rel (.ref a :: (us ++ [])) H2 Q _
  rw [List.append_nil]
  exact ⟨F2, W2, _, d, W3, g2.st, .cons (r.mono g2.ex) r2, hrel F2 (g.trans g2).ex, fun v F' H' g3 r3 => q v F' H' ((g.trans g2).trans g3) r3⟩
theorem ev_meth0 (h : EvS X o σ F W (.ob C fds) W1) (cl : ClsF X.K C) (Me : MeD X.prog X.w X.K X.mg X.base k C m ps rel) (hr : Room k X.A) (hm : fds.lookup m = none) (hrel : ∀ F1, Same F F1 → rel [.ob C fds] F1 W1 d W3)
    {pl : Sem Bool} (ht : eval (.Call (.Attribute o m apos) [] [] pos) X.env = (do
      let ov ← eval o X.env
      standAt apos.atName
      let (f, first) ← holding [ov] (getMethod ov m pl)
      callWith pos f first (backTo pos (starEach [] X.env)) (backToKw pos (keywordEach [] X.env))) := by rfl) : EvS X (.Call (.Attribute o m apos) [] [] pos) σ F W d W3 := fun H w Q q => by
  obtain ⟨f, fd, hF, hM, hb⟩ := Me.ex
  refine tm_of (pe_meth0 (E := E0) pe_tm cl.cls hM hF hr hb .nil pass0 ht) (h H w _ fun v F1 H1 g r => ?_)
  obtain ⟨a, dx, vs, rfl, h1, r1⟩ := r.ob_inv
  refine ⟨a, dx, vs, rfl, g.st.ins h1, r1.keys m hm, ?_⟩
  exact ⟨F1, W1, _, d, W3, g.st, .cons r .nil, hrel F1 g.ex, fun v F' H' g3 r3 => q v F' H' (g.trans g3) r3⟩
/-! ### made -/
/-- what an __init__ makes of what it is handed: the attributes -/
def spI (C : Addr) (rel : List D → List (Str × D) → Prop) : Sp := fun vs H Q _ => ∃ F W x dx ds fds vs', vs = .ref x :: vs' ∧ Wd F W H ∧ W x = some (.ins C dx []) ∧ Reps F vs' ds ∧ rel ds fds ∧
  ∀ fvs F' H', Go F W H F' (upd W x (.ins C dx fvs)) H' → RepF F' fvs fds → Q .non H'
structure InD (P : Program) (w : World) (K : PySem.W.Frag) (mg : Str → Option Value) (base : Heap) (k : Nat) (x : Str) (C : Addr) (ps : List Str) (rel : List D → List (Str × D) → Prop) : Prop where
  ex : ∃ f fd, FnOk P w K mg base CX0 k f fd ps (spI C rel) ∧ Mk K C f ∧ mg x = some (.ref C) ∧ Binds K fd ps []
theorem Go.made {H : Hp} {C x dx : Addr} (w : Wd F W H) (hx : H x = none) (hd : H dx = none) (ne : dx ≠ x) : Go F W H F (upd (upd W dx (.own x)) x (.ins C dx [])) (upd (upd H dx (.own x)) x (.ins C dx [])) := by
  have g1 := Go.own w (o := .own x) hd
  exact g1.trans (Go.own g1.st (by rw [upd_ne (Ne.symm ne)]; exact hx))
theorem ev_make {x : Str} {reli : List D → List (Str × D) → Prop} (In : InD X.prog X.w X.K X.mg X.base k x C ps reli) (hr : Room (k + 1) X.A) (ha : EvA X (e :: es) σ F W ds W1) (hrel : reli ds fds) (hg : Gl X x := by rfl) (hdb : (x == ("__debug__" : Str)) = false := by decide)
    (he : starEach (e :: es) X.env = (false, eval e X.env) :: starEach es X.env := by rfl) (hpl : (backTo pos (starEach es X.env)).any (·.1) = false := by rfl) : EvS X (.Call (.Name x p) (e :: es) [] pos) σ F W (.ob C fds) W1 := fun H w Q q => by
  obtain ⟨f, fd, hF, hM, hm, hb⟩ := In.ex
  refine tm_of (pe_make (E := E0) hM hF hr hg hm hb .nil pass0 pa_tm hdb he hpl) (ha H w _ fun vs F1 H1 g r => fun a dx hx hd ne => ?_)
  have gm := Go.made (C := C) g.st hx hd ne
  refine ⟨F1, _, a, dx, ds, fds, vs, by rw [List.append_nil], gm.st, upd_same, r, hrel, fun fvs F' H' g2 rf => ⟨rfl, ?_⟩⟩
  rw [upd_upd] at g2
  have f1 := Go.freeze g2.st (p := a) upd_same
  have w1x := (g.st.fresh hx).2
  have e1 : del (upd (upd W1 dx (.own a)) a (.ins C dx fvs)) a = upd W1 dx (.own a) := del_upd (by rw [upd_ne (Ne.symm ne)]; exact w1x)
  rw [e1] at f1
  have f2 := Go.freeze f1.st (p := dx) upd_same
  rw [del_upd (g.st.fresh hd).2] at f2
  refine q _ _ _ (g.trans (gm.trans (g2.trans (f1.trans f2)))) (.ob (C := C) (dx := dx) ((f2.ex) _ _ upd_same) (rf.mono (f1.ex.trans f2.ex)))
theorem ev_make0 {x : Str} {reli : List D → List (Str × D) → Prop} (In : InD X.prog X.w X.K X.mg X.base k x C ps reli) (hr : Room (k + 1) X.A) (hrel : reli [] fds) (hg : Gl X x := by rfl) (hdb : (x == ("__debug__" : Str)) = false := by decide) : EvS X (.Call (.Name x p) [] [] pos) σ F W (.ob C fds) W := fun H w Q q => by
  obtain ⟨f, fd, hF, hM, hm, hb⟩ := In.ex
  refine tm_of (pe_make0 (E := E0) hM hF hr hg hm hb .nil pass0 hdb) (fun a dx hx hd ne => ?_)
  have gm := Go.made (C := C) w hx hd ne
  refine ⟨F, _, a, dx, [], fds, [], rfl, gm.st, upd_same, .nil, hrel, fun fvs F' H' g2 rf => ⟨rfl, ?_⟩⟩
  rw [upd_upd] at g2
  have f1 := Go.freeze g2.st (p := a) upd_same
  have w1x := (w.fresh hx).2
  have e1 : del (upd (upd W dx (.own a)) a (.ins C dx fvs)) a = upd W dx (.own a) := del_upd (by rw [upd_ne (Ne.symm ne)]; exact w1x)
  rw [e1] at f1
  have f2 := Go.freeze f1.st (p := dx) upd_same
  rw [del_upd (w.fresh hd).2] at f2
  exact q _ _ _ (gm.trans (g2.trans (f1.trans f2))) (.ob (C := C) (dx := dx) ((f2.ex) _ _ upd_same) (rf.mono (f1.ex.trans f2.ex)))
/-- self.f = e, self owned -/
theorem bl_fld {x dx : Addr} {fvs : List (Str × V)} {pos' : Pos} (h : EvS X e σ F W d W1) (ho : EvS X o σ F W1 (.ow x) W1) (hw : W1 x = some (.ins C dx fvs)) (c : Cls X.K C) (na : NoAttr X.K C f) (hz : fvs.length < 1000)
    (k : ∀ v F1, Same F F1 → Rep F1 v d → BlkS X rest σ F1 (upd W1 x (.ins C dx (putF f v fvs))) A) (hs : swapsWith e (some (.Attribute o f pos')) pos.line X.env = pure false := by rfl) : BlkS X (.Assign [.Attribute o f pos'] e pos :: rest) σ F W A := fun H w E ok =>
  tmB_of (pss_cons (ps_fld pe_tm pe_tm hs) pss_tm) (h H w _ fun v F1 H1 g r => (ho.mono g.ex).then g fun v2 F2 H2 g2 g02 r2 => by
    cases r2
    refine ⟨x, C, dx, fvs, rfl, g2.st.w x _ hw, c, na, hz, ?_⟩
    exact (k v F2 g02.ex (r.mono g2.ex)).run ok (g02.trans (Go.put g2.st hw)))
theorem init_ok {P : Program} {w : World} {K : PySem.W.Frag} {mg : Str → Option Value} {base : Heap} {qual : Str} {st : Stmt} {f : Addr} {fd : FuncData} {N ps : List Str} {k : Nat} {reli : List D → List (Str × D) → Prop} (Fu : Fun K "__init__" qual st f fd) (S : FnScope N ps (defScope st)) (hl : ∀ ds fds, reli ds fds → ds.length + 1 = ps.length)
    (hb : ∀ (cdv : Value) (A : Around) (outer : List Env) (s : Shared) (H : Hp) (E : XK), Room k (A.deeper (envOfC qual (defScope st) s.heap.objs.size f cdv)) → ∀ ds fds W x dx vs F, reli ds fds → Reps F vs ds → W x = some (.ins C dx []) →
      BlkS (cxOf CX0 P w K mg base N qual (defScope st) f cdv A outer s H E).nox (defBody st) (start N (.ref x :: vs)) F W { nx := fun _ F2 W2 => ∃ fvs, W2 = upd W x (.ins C dx fvs) ∧ RepF F2 fvs fds, rt := fun _ _ => False }) :
    FnOk P w K mg base CX0 (k + 1) f fd ps (spI C reli) :=
  Fu.ok S (fun vs H Q E h => by
    obtain ⟨F, W, x, dx, ds, fds, vs', rfl, hw, hx, hr, hrel, _⟩ := h
    rw [List.length_cons, hr.length]; exact hl _ _ hrel) fun cdv A outer s H vs Q E hr h => by
    obtain ⟨F, W, x, dx, ds, fds, vs', rfl, hw, hx, hv, hrel, hq⟩ := h
    exact ⟨_, pss_tm, hb cdv A outer s H E hr ds fds W x dx vs' F hrel hv hx H hw _ ⟨fun σ' F' W2 H' g ⟨fvs, e1, rf⟩ => by
      subst e1; exact hq fvs F' H' g rf, fun d' v F' W2 H' g r z => z.elim, fun σ' F' W2 H' _ k => k.elim, fun σ' F' W2 H' _ k => k.elim⟩⟩
/-! ### truth, ==, != , isinstance -/
theorem ins_at {pins : List (Addr × Obj)} {s : Shared} {H : Hp} {a dx : Addr} {fs : List (Str × V)} (I : Inv X pins σ H s) (h : H a = some (.ins C dx fs)) : ∃ od, PySem.W.InstAt s.heap a (PySem.W.instObj C dx) C (some od) := by
  obtain ⟨mA, O, _⟩ := ins_get I.hok h
  obtain ⟨od, J, _⟩ := O.look
  exact ⟨od, J⟩
theorem run_bool {pins : List (Addr × Obj)} {s : Shared} {H : Hp} {A' : Around} {a : Addr} {Q : Bool → Shared → Prop} (Me : MeD X.prog X.w X.K X.mg X.base k C "__bool__" ps rel) (hr : Room k A') (hf : A'.frames = X.A.frames) (hrel : rel [.ob C fds] F W (.bl q) W1)
    (I : Inv X pins σ H s) (w : Wd F W H) (r : Rep F (.ref a) (.ob C fds)) (hQ : ∀ F' H' s', Go F W H F' W1 H' → Inv X pins σ H' s' → Q q s') : wpAny (model X.prog X.w) A' (truthy (.ref a)) Q X.xe s := by
  obtain ⟨g, fd, hF, hM, hb⟩ := Me.ex
  obtain ⟨a', dx, vs, e, h1, r1⟩ := id r.ob_inv
  cases e
  obtain ⟨od, J⟩ := ins_at I (w.ins h1)
  obtain ⟨m, hFr⟩ := I.fr
  refine PySem.W.truthy_K hFr I.ok.mod.kin J hM.at_ hM.fn (thn (call_at hF hb hr hf I (vs := [.ref a]) (Q := fun v H' => ∃ F', Go F W H F' W1 H' ∧ v = .bl q) (.cons rfl .nil) ?_) fun u s' ⟨v, H', I', ru, F', g', ev⟩ => ?_)
  · exact ⟨F, W, _, _, W1, w, .cons r .nil, hrel, fun v F' H' g' r' => ⟨F', g', by cases r'; rfl⟩⟩
  · subst ev
    cases ru
    exact hQ F' H' s' g' I'
theorem et_obj (h : EvS X e σ F W (.ob C fds) W1) (Me : MeD X.prog X.w X.K X.mg X.base k C "__bool__" ps rel) (hr : Room k X.A) (hrel : ∀ F1, Same F F1 → rel [.ob C fds] F1 W1 (.bl q) W2)
    (he : ∀ whole, isTrue e X.env whole = (do let v ← whole; standAt e.pos; holding [v] (truthy v)) := by intro _; rfl) : EvT X e σ F W q W2 := fun H w Q k' pins s I =>
  isTrue_plain (thn (h H w (fun v H' => ∃ F', Go F W H F' W1 H' ∧ Rep F' v (.ob C fds)) (fun v F' H' g r => ⟨F', g, r⟩) pins s I) fun v s1 ⟨x, H1, I1, r1, F', g, r⟩ => by
    obtain ⟨a, dx, vs, rfl, h1, r2⟩ := id r.ob_inv
    cases r1
    exact run_bool Me hr rfl (hrel F' g.ex) I1 g.st r fun F2 H2 s' g2 I2 => ⟨H2, I2, k' F2 H2 (g.trans g2)⟩) (he _)
theorem ev_boolO (hm : X.mg "bool" = none) (h : EvA X [e] σ F W [.ob C fds] W1) (Me : MeD X.prog X.w X.K X.mg X.base k C "__bool__" ps rel) (hr : Room (k + 2) X.A) (hrel : ∀ F1, Same F F1 → rel [.ob C fds] F1 W1 (.bl q) W2) (hv : bootBuiltins "bool" = some (.type "bool")) (hg : Gl X "bool" := by rfl)
    (he : starEach [e] X.env = (false, eval e X.env) :: starEach [] X.env := by rfl) : EvS X (.Call (.Name "bool" p) [e] [] pos) σ F W (.bl q) W2 := fun H w Q k' =>
  tm_of (pe_callTy (r := fun xs H Q => ∃ F W a, xs = [.ref a] ∧ Wd F W H ∧ Rep F (.ref a) (.ob C fds) ∧ rel [.ob C fds] F W (.bl q) W2 ∧ ∀ F' H', Go F W H F' W2 H' → Q (.bl q) H')
    (fun pins s σ H xs us Q I r h => by
      obtain ⟨F, W, a, rfl, w, rr, hre, hq⟩ := h
      obtain rfl := Vals.ref1 r
      exact ZBool.call_bool (run_bool Me hr.in1.in1 rfl hre I w rr fun F' H' s' g I' => fun tk => ⟨.bl q, H', I'.tok tk, rfl, hq F' H' g⟩)) hg hm hv pa_tm (by decide) (by decide) he rfl) (h H w _ fun vs F1 H1 g r => by
    cases r with
    | cons r t =>
    cases t
    obtain ⟨a, dx, vs, rfl, h1, r2⟩ := id r.ob_inv
    exact ⟨F1, W1, a, rfl, g.st, r, hrel F1 g.ex, fun F' H' g2 => k' _ F' H' (g.trans g2) (.bl _)⟩)
theorem cm_eqO (cl : ClsF X.K C) (Me : MeD X.prog X.w X.K X.mg X.base k C "__eq__" ps rel) (hr : Room k X.A) (hrel : ∀ F1, Same F F1 → rel [.ob C fds, .ob C2 gds] F1 W (.bl q) W) (hnf : PySem.W.notFirst X.K C (.ref C2) = true) : CmpR X .Eq F W (.ob C fds) (.ob C2 gds) q := by
  obtain ⟨g, fd, hF, hM, hb⟩ := Me.ex
  refine ⟨fun x y H Q => ∃ F W a b, x = .ref a ∧ y = .ref b ∧ Wd F W H ∧ Rep F (.ref a) (.ob C fds) ∧ Rep F (.ref b) (.ob C2 gds) ∧ rel [.ob C fds, .ob C2 gds] F W (.bl q) W ∧ ∀ F' H', Go F W H F' W H' → Q (.bl q) H', ?_, ?_⟩
  · intro pins s σ H x y v u Q I rx ry h
    obtain ⟨F, W, a, b, rfl, rfl, w, r1, r2, hre, hq⟩ := h
    cases rx; cases ry
    obtain ⟨a', dx, vs, e, h1, _⟩ := id r1.ob_inv
    cases e
    obtain ⟨b', dy, ws, e, h2, _⟩ := id r2.ob_inv
    cases e
    obtain ⟨od, J⟩ := ins_at I (w.ins h1)
    obtain ⟨od2, J2⟩ := ins_at I (w.ins h2)
    obtain ⟨m, hFr⟩ := I.fr
    show wpAny (model X.prog X.w) X.A (richCompare .Eq (.ref a) (.ref b)) (EP X pins σ Q) X.xe s
    refine PySem.W.cmp_K (op := .Eq) (tb := .ref C2) hr.units0 hFr I.ok.mod.kin J J2.type hnf hM.at_ hM.fn (thn (call_at hF hb hr rfl I (vs := [.ref a, .ref b]) (Q := fun v H' => ∃ F', Go F W H F' W H' ∧ v = .bl q) (.cons rfl (.cons rfl .nil)) ?_) fun u s' ⟨v, H', I', ru, F', g', ev⟩ => ?_)
    · exact ⟨F, W, _, _, W, w, .cons r1 (.cons r2 .nil), hre, fun v F' H' g' r' => ⟨F', g', by cases r'; rfl⟩⟩
    · subst ev
      cases ru
      exact ⟨.bl q, H', I', rfl, hq F' H' g'⟩
  · intro v1 v2 F1 H1 e r1 r2 w Q hq
    obtain ⟨a, dx, vs, rfl, h1, _⟩ := id r1.ob_inv
    obtain ⟨b, dy, ws, rfl, h2, _⟩ := id r2.ob_inv
    exact ⟨F1, W, a, b, rfl, rfl, w, r1, r2, hrel F1 e, fun F' H' g => hq _ F' H' g (.bl _)⟩
theorem cm_neO (cl : ClsF X.K C) (Me : MeD X.prog X.w X.K X.mg X.base k C "__eq__" ps rel) (hr : Room (k + 1) X.A) (hrel : ∀ F1, Same F F1 → rel [.ob C fds, .ob C2 gds] F1 W (.bl q) W) (hnf : PySem.W.notFirst X.K C (.ref C2) = true) : CmpR X .NotEq F W (.ob C fds) (.ob C2 gds) (!q) := by
  obtain ⟨g, fd, hF, hM, hb⟩ := Me.ex
  refine ⟨fun x y H Q => ∃ F W a b, x = .ref a ∧ y = .ref b ∧ Wd F W H ∧ Rep F (.ref a) (.ob C fds) ∧ Rep F (.ref b) (.ob C2 gds) ∧ rel [.ob C fds, .ob C2 gds] F W (.bl q) W ∧ ∀ F' H', Go F W H F' W H' → Q (.bl (!q)) H', ?_, ?_⟩
  · intro pins s σ H x y v u Q I rx ry h
    obtain ⟨F, W, a, b, rfl, rfl, w, r1, r2, hre, hq⟩ := h
    cases rx; cases ry
    obtain ⟨a', dx, vs, e, h1, _⟩ := id r1.ob_inv
    cases e
    obtain ⟨b', dy, ws, e, h2, _⟩ := id r2.ob_inv
    cases e
    obtain ⟨od, J⟩ := ins_at I (w.ins h1)
    obtain ⟨od2, J2⟩ := ins_at I (w.ins h2)
    obtain ⟨m, hFr⟩ := I.fr
    have hu := hr.units
    show wpAny (model X.prog X.w) X.A (richCompare .NotEq (.ref a) (.ref b)) (EP X pins σ Q) X.xe s
    refine PySem.W.z_ne_K (tb := .ref C2) (by omega) hFr I.ok.mod.kin J J2.type hnf cl.ne cl.obj hM.at_ hM.fn (by decide +kernel) (thn (call_at hF hb hr.in1 rfl I (vs := [.ref a, .ref b]) (Q := fun v H' => ∃ F', Go F W H F' W H' ∧ v = .bl q) (.cons rfl (.cons rfl .nil)) ?_) fun u s' ⟨v, H', I', ru, F', g', ev⟩ => ?_)
    · exact ⟨F, W, _, _, W, w, .cons r1 (.cons r2 .nil), hre, fun v F' H' g' r' => ⟨F', g', by cases r'; rfl⟩⟩
    · subst ev
      cases ru
      exact ⟨q, rfl, .bl (!q), H', I', rfl, hq F' H' g'⟩
  · intro v1 v2 F1 H1 e r1 r2 w Q hq
    obtain ⟨a, dx, vs, rfl, h1, _⟩ := id r1.ob_inv
    obtain ⟨b, dy, ws, rfl, h2, _⟩ := id r2.ob_inv
    exact ⟨F1, W, a, b, rfl, rfl, w, r1, r2, hrel F1 e, fun F' H' g => hq _ F' H' g (.bl _)⟩
/-- isinstance(x, an own class) -/
theorem ev_isiO {y : Str} {p2 : Pos} (hm : X.mg "isinstance" = none) (hm2 : X.mg y = some (.ref C2)) (ha : EvS X e σ F W (.ob C fds) W1) (cl : ClsF X.K C) (hk : PySem.W.kitOne X.K (.ref C) (.ref C2) = some q) (hg : Gl X "isinstance" := by rfl) (hg2 : Gl X y := by rfl)
    (hdb : (y == ("__debug__" : Str)) = false := by decide) (he : starEach [e, .Name y p2] X.env = (false, eval e X.env) :: starEach [.Name y p2] X.env := by rfl) (hpl : (backTo pos (starEach [.Name y p2] X.env)).any (·.1) = false := by rfl) :
    EvS X (.Call (.Name "isinstance" p) [e, .Name y p2] [] pos) σ F W (.bl q) W1 := fun H w Q k =>
  tm_of (pe_callB call_isi hg hm (by decide +kernel) (pa_cons pe_tm (pa_cons (pe_glob (v := .ref C2) hg2 hm2 rfl hdb) pa_nil) he) (by decide) (by decide) he hpl) (ha H w _ fun v F1 H1 g r => by
    obtain ⟨a, dx, vs, rfl, h1, _⟩ := id r.ob_inv
    exact ⟨.ref a, .ref C2, .ref C, .ref C2, q, rfl, .own C2, .base (.ins (g.st.ins h1) cl.cls cl.ha cl.hn cl.tk cl.obj), hk, k _ F1 H1 g (.bl _)⟩)
end
end Z
set_option Elab.async false
set_option linter.all false
set_option maxRecDepth 100000
set_option maxHeartbeats 1000000
namespace Z
open PySem PySem.Spec PyProof.Rows L2
section
variable {X : Cx} {e a b c o tg iter elt : Expr} {es ifs : List Expr} {σ : L2.St} {F F1 W W1 W2 W3 : Hp} {d d1 d2 d3 : D} {ds : List D} {q q1 q2 : Bool} {pos p p2 apos : Pos} {i j : Int} {k n : Nat} {A : AE} {rest body : List Stmt}
/-! ### sorted, sets -/
def sortI (ns : List Int) : List Int := ns.mergeSort fun x y => decide (x ≤ y)
theorem cl_sortedI {ns : List Int} : CalR X (.builtin "sorted") F W [eR false D.int ns] (eR false D.int (sortI ns)) := ⟨_, cr_sortedI, fun vs F1 H1 _ r w Q q => by
  cases r with
  | cons r t =>
    cases t
    obtain ⟨l, rfl, h1, z⟩ := rep_ints r
    refine ⟨l, ns, rfl, SqL.of (w.lst h1), fun ns' p hp hs hn => ?_⟩
    have e : ns' = sortI ns := PySem.W.os_sorted_mergeSort hp hs
    subst e
    exact q _ _ _ (Go.new w hn) (.sq (t := false) upd_same (Reps.of_ints _) (by rw [List.length_map, hp.length_eq]; exact z))⟩
theorem len_of_nodup {α : Type} [DecidableEq α] : ∀ {l m : List α}, l.Nodup → (∀ x, x ∈ l → x ∈ m) → l.length ≤ m.length
  | [], _, _, _ => Nat.zero_le _
  | x :: l, m, hn, h => by
    have hx : x ∈ m := h x List.mem_cons_self
    have h2 := List.nodup_cons.mp hn
    have := len_of_nodup (l := l) (m := m.erase x) h2.2 (fun y hy => by
      have hne : y ≠ x := fun e => h2.1 (e ▸ hy)
      exact (List.mem_erase_of_ne hne).mpr (h y (List.mem_cons_of_mem _ hy)))
    rw [List.length_erase_of_mem hx] at this
    have hp : 0 < m.length := List.length_pos_of_mem hx
    simp only [List.length_cons]
    omega
def tLenSetG (K : PySem.W.Frag) (ta : TE) : TE := fun σ H Q => ta σ H fun x H1 => ∃ (t : Bool) (l : Addr) (ns : List Int), x = .ref l ∧ SqO K t H1 l (ns.map V.int) ∧ ns.Nodup ∧ ns.length ≤ 4000 ∧ Q (.int (ns.length : Nat)) H1
theorem pe_lenSetG {q' : Pos} (hg : Gl X "len") (hm : X.mg "len" = none) (hg2 : Gl X "set") (hm2 : X.mg "set" = none) {ta : TE} (ha : PE X a ta) (hc : X.calm = true := by rfl)
    (na : starEach [a] X.env = (false, eval a X.env) :: starEach [] X.env := by rfl) : PE X (.Call (.Name "len" p) [.Call (.Name "set" p2) [a] [] q'] [] pos) (tLenSetG X.K ta) := by
  refine ⟨fun pins s σ H Q I h => ?_⟩
  refine Call_ (ld_blt I hg hm PySem.boot_len ?_)
  refine PyProof.Rows.callWith_builtin1 (PyProof.Rows.args_cons ?_ rfl) rfl rfl
  refine Call_ (ld_blt I hg2 hm2 PyProof.Rows.boot_set ?_)
  refine PyProof.Rows.callWith_type1 (PyProof.Rows.args_cons (thn (ha.run pins s σ H _ I h) fun v s1 ⟨x, H1, I1, r1, q1⟩ => PyProof.Rows.args_nil ?_) na) na rfl
  obtain ⟨t, l, ns, rfl, hq, hnd, hl, q1⟩ := q1
  cases r1
  cases t with
  | false =>
    obtain ⟨its, r, pl, hz⟩ := I1.list hq
    have hlen : its.toArray.size = ns.length := by rw [List.size_toArray, ← r.length, List.length_map]
    refine call_set_list (I1.ok.hd hc) pl.isList (by simpa using RZ.intsAre_vals r) (by rw [hlen]; unfold scanBound; omega) fun h' tk hS hk => ?_
    refine PyProof.Rows.args_nil ?_
    rw [hlen, RZ.firstMet_nodup hnd ns.length (Nat.le_refl _), List.take_length] at hS
    obtain ⟨o, es, ep, t, ho, hex, hd, _, _, _, hf, hn⟩ := hS
    have I2 : Inv X pins σ H1 { s1 with heap := h', toks := tk } := I1.kept fun b o e => hk b o (Heap.lt_size e) e
    exact call_len_set ho hex hd hf (by rw [hn] <;> omega) ⟨.int ns.length, H1, I2.tok _, ⟨_, by rw [hn]⟩, q1⟩
  | true =>
    obtain ⟨its, r, pl, hz⟩ := I1.tuple hq
    have hi := RZ.intsAre_vals r
    refine call_set_tupI ns (I1.ok.hd hc) (show s1.heap.IsTuple l its.toArray from pl) (by simpa using hi) (by unfold scanBound; omega) fun h' tk c hS _ hk => ?_
    refine PyProof.Rows.args_nil ?_
    obtain ⟨o, es, ep, t, ho, hex, hd, hgd, hnd2, hmem, _, hf, hn, _⟩ := hS
    have I2 : Inv X pins σ H1 { s1 with heap := h', toks := tk } := I1.kept fun b o e => hk b o e
    have e1 : es.size = ns.length := by
      have a1 := len_of_nodup hnd2 (m := ns) fun x hx => of_decide_eq_true ((hmem x).mpr hx)
      have a2 := len_of_nodup hnd (m := es.toList.map keyOf) fun x hx => (hmem x).mp (decide_eq_true hx)
      rw [List.length_map, Array.length_toList] at a1 a2
      exact Nat.le_antisymm a1 a2
    exact call_len_set ho hex hd hf (by rw [e1]; omega) ⟨.int ns.length, H1, I2.tok _, ⟨_, by rw [e1]⟩, q1⟩
theorem ev_lenset {t : Bool} {ns : List Int} {q' : Pos} (hm : X.mg "len" = none) (hm2 : X.mg "set" = none) (h : EvS X a σ F W (eR t D.int ns) W1) (hnd : ns.Nodup) (hz : ns.length ≤ 4000) (hg : Gl X "len" := by rfl) (hg2 : Gl X "set" := by rfl) (hc : X.calm = true := by rfl)
    (na : starEach [a] X.env = (false, eval a X.env) :: starEach [] X.env := by rfl) : EvS X (.Call (.Name "len" p) [.Call (.Name "set" p2) [a] [] q'] [] pos) σ F W (.int ns.length) W1 := fun H w Q q =>
  tm_of (pe_lenSetG hg hm hg2 hm2 pe_tm hc na) (h H w _ fun v F1 H1 g r => by
    obtain ⟨l, rfl, h1, z⟩ := rep_ints r
    exact ⟨t, l, ns, rfl, sqo_of g.st h1, hnd, hz, q _ F1 H1 g (.int _)⟩)
/-! ### the script, that nobody writes -/
theorem Rep.fz_inv {v : V} {K : PySem.W.Frag} (r : Rep F v (.fz K ds)) : ∃ a vs, v = .ref a ∧ ((∃ o, F a = some (.frz o (.lst vs))) ∨ SqK K a vs) ∧ Reps F vs ds ∧ ds.length ≤ 100000 := by
  cases r with
  | fz h r z => exact ⟨_, _, rfl, h, r, z⟩
theorem Rep.fz_sq {v : V} {K : PySem.W.Frag} {H : Hp} (w : Wd F W H) (r : Rep F v (.fz K ds)) : ∃ a vs, v = .ref a ∧ SqL K H a vs ∧ Reps F vs ds ∧ ds.length ≤ 100000 := by
  obtain ⟨a, vs, e, h, r, z⟩ := r.fz_inv
  refine ⟨a, vs, e, ?_, r, z⟩
  rcases h with ⟨o, h⟩ | h
  · exact w.fzl h
  · exact .inr h
theorem Rep.fz_dp {v : V} {K : PySem.W.Frag} {H : Hp} (w : Wd F W H) (r : Rep F v (.fz K ds)) (h : D.pls ds = true) : Dp K H v (.list (D.pds ds)) := by
  obtain ⟨a, vs, rfl, h1, s1, z1⟩ := r.fz_sq w
  exact .lst h1 (Reps.dp w s1 h)
theorem cl_lenZ : CalR X (.builtin "len") F W [.fz X.K ds] (.int ds.length) := ⟨_, call_len_seq, fun vs F1 H1 _ r w Q q => by
  cases r with
  | cons r t =>
    cases t
    obtain ⟨l, us, rfl, h1, s1, z1⟩ := r.fz_sq w
    exact ⟨l, us, rfl, .inl h1, by rw [s1.length]; exact q _ F1 H1 (Go.refl w) (.int _)⟩⟩
theorem ev_ixZ (ha : EvS X a σ F W (.fz X.K ds) W1) (hb : EvS X b σ F W1 (.int i) W2) (hx : atI ds i = some d) (hs : ∀ v i, subscripted b false v i = operate [v, i] (getItem v i) := by intro _ _; rfl) : EvS X (.Subscript a b pos) σ F W d W2 := fun H w Q q =>
  tm_of (pe_ix ix_list pe_tm pe_tm hs) (ha H w _ fun v F1 H1 g r => (hb.mono g.ex).then g fun v2 F2 H2 g2 g02 r2 => by
    obtain ⟨l, us, rfl, h1, s1, z1⟩ := (r.mono g2.ex).fz_sq g02.st
    cases r2
    obtain ⟨v, hv, rv⟩ := atI_rep s1 hx
    exact ⟨l, us, i, v, rfl, rfl, h1, hv, q v F2 H2 g02 rv⟩)
/-! ### owned lists -/
theorem ev_ixW {l : Addr} {vs : List V} {v : V} (ha : EvS X a σ F W (.ow l) W1) (hb : EvS X b σ F W1 (.int i) W2) (hw : W2 l = some (.lst vs)) (hx : atI vs i = some v) (r : Rep F v d) (hs : ∀ v i, subscripted b false v i = operate [v, i] (getItem v i) := by intro _ _; rfl) : EvS X (.Subscript a b pos) σ F W d W2 := fun H w Q q =>
  tm_of (pe_ix ix_list pe_tm pe_tm hs) (ha H w _ fun v F1 H1 g r1 => (hb.mono g.ex).then g fun v2 F2 H2 g2 g02 r2 => by
    cases r1; cases r2
    exact ⟨l, vs, i, _, rfl, rfl, SqL.of (g02.st.w l _ hw), hx, q _ F2 H2 g02 (r.mono g02.ex)⟩)
theorem pget_list : PGet X (fun o i H Q => ∃ (l : Addr) (xs : List V) (k : Nat) (v : V), o = .ref l ∧ i = .int k ∧ SqL X.K H l xs ∧ xs[k]? = some v ∧ Q v H) := by
  intro pins s σ H o i ov iv Q I ro ri h
  obtain ⟨l, xs, k, v, rfl, rfl, hl, hv, q⟩ := h
  cases ro
  obtain ⟨t, rfl⟩ := ri
  obtain ⟨its, r, pl, hz⟩ := I.list hl
  obtain ⟨u, hu, ru⟩ := r.get hv
  have hn := line63
  have hk : k < xs.length := (List.getElem?_eq_some_iff.mp hv).1
  exact wpAny_getItem_list pl.isList (by omega) (by omega) (x := u) (by simpa using hu) ⟨v, H, I, ru, q⟩
/-- l[j] += an int -/
theorem bl_augL {l : Addr} {vs : List V} {j : Nat} {m m2 : Int} {tpos : Pos} (ha : EvS X a σ F W (.ow l) W) (hb : EvS X b σ F W (.int j) W) (hw : W l = some (.lst vs)) (hx : vs[j]? = some (.int m)) (he : EvS X e σ F W (.int m2) W) (kk : BlkS X rest σ F (upd W l (.lst (vs.set j (.int (m + m2))))) A)
    (hst : ∀ ov iv new, augStore b ov iv new = (do holding [new, ov, iv] (setItem ov iv new); release [new, ov, iv] []; pure .next) := by intros; rfl) :
    BlkS X (.AugAssign (.Subscript a b tpos) .Add e pos :: rest) σ F W A := fun H w E ok =>
  tmB_of (pss_cons (ps_augS pe_tm pe_tm pget_list pe_tm ip_add set_list hst) pss_tm) (ha H w _ fun v F1 H1 g r1 => (hb.mono g.ex).then g fun v2 F2 H2 g2 g02 r2 => by
    cases r1; cases r2
    have hl := g02.st.w l _ hw
    refine ⟨l, vs, j, .int m, rfl, rfl, SqL.of hl, hx, (he.mono g02.ex).then g02 fun v3 F3 H3 g3 g03 r3 => ?_⟩
    cases r3
    refine ⟨m, m2, rfl, rfl, l, vs, j, j, rfl, rfl, g03.st.w l _ hw, ?_, kk.run ok (g03.back.trans (Go.put g03.back.st hw))⟩
    have hj : j < vs.length := (List.getElem?_eq_some_iff.mp hx).1
    unfold ixN
    rw [if_pos (by omega), if_pos (by omega)]; simp)
/-- l[j] = e -/
theorem bl_setL {l : Addr} {vs : List V} {j : Nat} {tpos : Pos} (he : EvS X e σ F W d W) (ha : EvS X a σ F W (.ow l) W) (hb : EvS X b σ F W (.int j) W) (hw : W l = some (.lst vs)) (hj : j < vs.length) (kk : ∀ v F1, Same F F1 → Rep F1 v d → BlkS X rest σ F1 (upd W l (.lst (vs.set j v))) A)
    (hg : ∀ v, assign (.Subscript a b tpos) X.env v = (do
      let ov ← holding [v] (eval a X.env)
      let iv ← holding [v, ov] (eval b X.env)
      standAt tpos
      holding [v, ov, iv] (setItem ov iv v)
      release [v, ov, iv] []) := by intro _; rfl)
    (hs : swapsWithSole [.Subscript a b tpos] e pos.line X.env = pure false := by rfl) (hsw : swappedStores [.Subscript a b tpos] e X.env = pure none := by rfl) (h1 : (assignEach [.Subscript a b tpos] X.env).map (·.2) = [assign (.Subscript a b tpos) X.env] := by rfl) :
    BlkS X (.Assign [.Subscript a b tpos] e pos :: rest) σ F W A := fun H w E ok =>
  tmB_of (pss_cons (ps_asg pe_tm (pg_sub pe_tm pe_tm set_list hg) hs hsw h1) pss_tm) (he H w _ fun v F1 H1 g r => (ha.mono g.ex).then g fun v2 F2 H2 g2 g02 r2 => (hb.mono g02.ex).then g02 fun v3 F3 H3 g3 g03 r3 => by
    cases r2; cases r3
    refine ⟨l, vs, j, j, rfl, rfl, g03.st.w l _ hw, ?_, (kk v F3 g03.ex (r.mono (g2.ex.trans g3.ex))).run ok (g03.trans (Go.put g03.st hw))⟩
    unfold ixN
    rw [if_pos (by omega), if_pos (by omega)]; simp)
/-- l.append(e) -/
theorem bl_app {l : Addr} {vs : List V} (ha : EvS X o σ F W (.ow l) W) (he : EvS X e σ F W d W1) (hw : W1 l = some (.lst vs)) (hz : vs.length < 100000) (hw0 : W l = some (.lst vs)) (kk : ∀ v F1, Same F F1 → Rep F1 v d → BlkS X rest σ F1 (upd W1 l (.lst (vs ++ [v]))) A)
    (hs : swapsWith (.Call (.Attribute o "append" apos) [e] [] p) none pos.line X.env = pure false := by rfl) (h1 : attributeBase o "append" X.env (eval o X.env) = eval o X.env := by rfl) (hst : starEach [e] X.env = (false, eval e X.env) :: starEach [] X.env := by rfl)
    (hln : (apos.endLine == p.line) = true := by rfl) (hfew : (((backTo p (starEach [e] X.env)).all fun x => !x.fst) && (backToKw p (keywordEach [] X.env)).all fun x => x.fst.isSome) && decide (([e].length + ([] : List Keyword).length + if ([] : List Keyword).isEmpty = true then 0 else 1) < 30) = true := by rfl) :
    BlkS X (.Expr (.Call (.Attribute o "append" apos) [e] [] p) pos :: rest) σ F W A := fun H w E ok =>
  tmB_of (pss_cons (ps_expr (pe_bm PySem.F.plainAttrs_list PySem.F.slot_list_append PySem.F.type_list_append mt_append pe_tm (pa_cons pe_tm pa_nil hst) (hbase := h1) (hfew := hfew) (hs := hst) (hline := hln)) hs) pss_tm) (ha H w _ fun v F1 H1 g r => by
    cases r
    refine ⟨.inl ⟨rfl, _, SqL.of (g.st.w l _ hw0)⟩, (he.mono g.ex).then g fun v2 F2 H2 g2 g02 r2 => ?_⟩
    exact ⟨l, vs, v2, rfl, rfl, g02.st.w l _ hw, sz_lt (Nat.le_of_lt hz), (kk v2 F2 g02.ex r2).run ok (g02.trans (Go.put g02.st hw))⟩)
/-- x += e -/
theorem bl_augI {i : Nat} {x : Str} {m m2 : Int} {pos' : Pos} (hx : σ[i]? = some (some (.int m))) (he : EvS X e σ F W (.int m2) W1) (kk : BlkS X rest (σ.set i (some (.int (m + m2)))) F W1 A) (hi : X.N[i]? = some x := by rfl) (hN : X.N.Nodup := by first | assumption | decide +kernel) (hl : Loc X.env.scope x := by first | exact Or.inl rfl | exact Or.inr rfl)
    (hf : X.fn x = true ∨ X.env.scope.names.lookup x = some .local := by first | exact .inl rfl | exact .inr rfl) : BlkS X (.AugAssign (.Name x pos') .Add e pos :: rest) σ F W A := fun H w E ok =>
  tmB_of (pss_cons (ps_aug hN hi hl pe_tm ip_add hf) pss_tm) ⟨_, hx, he H w _ fun v F1 H1 g r => by
    cases r
    exact ⟨m, m2, rfl, rfl, kk.run ok g.back⟩⟩
/-- a, b = x, y; a, b, c = x, y, z (plain local names, stored from the right) -/
theorem bl_par2 {i j : Nat} {x y : Str} {px py pt : Pos} {kt k2 pt2} (ha : EvA X [a, b] σ F W [d1, d2] W1) (kk : ∀ v1 v2 F1, Same F F1 → Rep F1 v1 d1 → Rep F1 v2 d2 → BlkS X rest ((σ.set i (some v1)).set j (some v2)) F1 W1 A) (hi : X.N[i]? = some x := by rfl) (hj : X.N[j]? = some y := by rfl) (hij : i ≠ j := by decide)
    (hx : X.env.scope.names.lookup x = some .local := by rfl) (hy : X.env.scope.names.lookup y = some .local := by rfl) (hw : swappedStores [.Tuple [.Name x px, .Name y py] kt pt] (.Tuple [a, b] k2 pt2) X.env = pure (some [x, y]) := by rfl)
    (hs : swapsWithSole [.Tuple [.Name x px, .Name y py] kt pt] (.Tuple [a, b] k2 pt2) pos.line X.env = pure false := by rfl) (hc : X.calm = true := by rfl) (hN : X.N.Nodup := by first | assumption | decide +kernel) :
    BlkS X (.Assign [.Tuple [.Name x px, .Name y py] kt pt] (.Tuple [a, b] k2 pt2) pos :: rest) σ F W A := fun H w E ok =>
  tmB_of (pss_cons (ps_par hc hN hi hj hij hx hy pa_tm hw hs) pss_tm) (ha H w _ fun vs F1 H1 g r => by
    cases r with
    | cons r1 t =>
    cases t with
    | cons r2 t =>
    cases t
    exact ⟨_, _, rfl, (kk _ _ F1 g.ex r1 r2).run ok g⟩)
/-! ### an owned new list -/
def EvN (X : Cx) (e : Expr) (σ : L2.St) (F W : Hp) (ds : List D) (W1 : Hp) : Prop :=
  ∀ H, Wd F W H → ∀ Q : VK, (∀ p vs F' H', Go F W H F' (upd W1 p (.lst vs)) H' → Reps F' vs ds → W1 p = none → F' p = none → Q (.ref p) H') → tmE X e σ H Q
theorem en_lst (h : EvA X es σ F W ds W1) (hz : ds.length ≤ 100000) : EvN X (.List es pos) σ F W ds W1 := fun H w Q q =>
  tm_of (pe_lst pa_tm) (h H w _ fun vs F1 H1 g r => ⟨by rw [r.length]; exact sz_ok hz, fun p hp => q p vs _ _ (g.trans (Go.own g.st hp)) r (g.st.fresh hp).2 (g.st.fresh hp).1⟩)
theorem en_list {t : Bool} {y : Str} (hm : X.mg "list" = none) (ha : EvA X [e] σ F W [.sq t ds] W1) (hv : bootBuiltins "list" = some (.type "list")) (hg : Gl X "list" := by rfl)
    (he : starEach [e] X.env = (false, eval e X.env) :: starEach [] X.env := by rfl) : EvN X (.Call (.Name "list" p) [e] [] pos) σ F W ds W1 := fun H w Q q =>
  tm_of (pe_callTy call_list_of hg hm hv pa_tm (by decide) (by decide) he rfl) (ha H w _ fun vs F1 H1 g r => by
    cases r with
    | cons r t =>
    cases t
    obtain ⟨l, us, rfl, h1, s1, z1⟩ := r.sq_inv
    exact ⟨l, us, rfl, g.st.seq h1, fun p hp => q p us _ _ (g.trans (Go.own g.st hp)) s1 (g.st.fresh hp).2 (g.st.fresh hp).1⟩)
theorem en_rep {xs : List D} {k : Int} (ha : EvS X a σ F W (.sq false xs) W1) (hb : EvS X b σ F W1 (.int k) W2) (hk : k ≤ 100000) (hz : xs.length * k.toNat ≤ 100000) (h0 : -100000 ≤ k) : EvN X (.BinOp a .Mult b pos) σ F W (List.replicate k.toNat xs).flatten W2 := fun H w Q q =>
  tm_of (pe_op op_rep pe_tm pe_tm) (ha H w _ fun v1 F1 H1 g1 r1 => (hb.mono g1.ex).then g1 fun v2 F2 H2 g2 g02 r2 => by
    obtain ⟨l, vs, rfl, h1, s1, z1⟩ := (r1.mono g2.ex).lst_inv
    cases r2
    exact ⟨l, k, vs, rfl, rfl, g2.st.lst h1, by omega, by omega, by rw [s1.length]; exact sz_ok hz, fun p hp => q p _ _ _ (g02.trans (Go.own g02.st hp)) (s1.rep k.toNat) (g02.st.fresh hp).2 (g02.st.fresh hp).1⟩)
theorem bl_asgN {i : Nat} {x : Str} {pos' : Pos} (h : EvN X e σ F W ds W1) (k : ∀ p vs F1, Same F F1 → Reps F1 vs ds → W1 p = none → BlkS X rest (σ.set i (some (.ref p))) F1 (upd W1 p (.lst vs)) A) (hi : X.N[i]? = some x := by rfl) (hx : Loc X.env.scope x := by first | exact Or.inl rfl | exact Or.inr rfl)
    (hs : swapsWith e (some (.Name x pos')) pos.line X.env = pure false := by rfl) (hN : X.N.Nodup := by first | assumption | decide +kernel) (hf : X.fn x = true ∨ X.env.scope.names.lookup x = some .local := by first | exact .inl rfl | exact .inr rfl) :
    BlkS X (.Assign [.Name x pos'] e pos :: rest) σ F W A := fun H w E o =>
  tmB_of (pss_cons (ps_set hN hi hx pe_tm hs hf) pss_tm) (h H w _ fun p vs F' H' g r wp fp => (k p vs F' g.ex r wp).run o g)
/-- from here on it is not changed -/
theorem bl_freeze {l : Addr} {vs : List V} {sts : List Stmt} (hw : W l = some (.lst vs)) (r : Reps F vs ds) (hz : ds.length ≤ 100000) (k : ∀ F1, Same F F1 → Rep F1 (.ref l) (.sq false ds) → BlkS X sts σ F1 (del W l) A) : BlkS X sts σ F W A := fun H w E ok => by
  have g := Go.freeze w hw
  exact (k (upd F l (.lst vs)) g.ex (.sq (t := false) upd_same (r.mono g.ex) hz)).run ok g
/-! ### comprehensions that draw -/
def lcK {α β : Type} (t : α → Nat → Bool × Nat) (f : α → Nat → β × Nat) : List α → Nat → List β × Nat
  | [], k => ([], k)
  | x :: xs, k => if (t x k).1 = true then ((f x (t x k).2).1 :: (lcK t f xs (f x (t x k).2).2).1, (lcK t f xs (f x (t x k).2).2).2) else lcK t f xs (t x k).2
theorem lcK_snoc {α β : Type} (t : α → Nat → Bool × Nat) (f : α → Nat → β × Nat) (x : α) : ∀ (xs : List α) (k : Nat), lcK t f (xs ++ [x]) k =
    (let r := lcK t f xs k; if (t x r.2).1 = true then (r.1 ++ [(f x (t x r.2).2).1], (f x (t x r.2).2).2) else (r.1, (t x r.2).2))
  | [], k => by
    simp only [List.nil_append, lcK]
    rfl
  | y :: ys, k => by
    have ih := lcK_snoc t f x ys
    simp only [List.cons_append, lcK]
    by_cases h : (t y k).1 = true
    · simp only [h, if_true, ih]
      by_cases h2 : (t x (lcK t f ys (f y (t y k).2).2).2).1 = true
      · simp only [h2, if_true, List.cons_append]
      · simp only [h2, if_false]; rfl
    · simp only [h, if_false, ih]; rfl
theorem lc_K {α β : Type} {xs : List α} {f : α → D} {g : β → D} {own : List (Str × Nat)} {scope : Scope} (WK : Nat → Hp) {k0 : Nat} (t : α → Nat → Bool × Nat) (el : α → Nat → β × Nat) (hi : EvI X tg iter σ F W (xs.map f) (WK k0)) (hz : xs.length ≤ 100000)
    (body : ∀ x ∈ xs, ∀ k v F1, Same F F1 → Rep F1 v (f x) → Turn1 X scope (own.map (·.2)) tg ifs elt v σ F1 (WK k) (t x k).1 (WK (t x k).2) (g (el x (t x k).2).1) (WK (el x (t x k).2).2)) :
    LcS X elt tg iter ifs scope own σ F W (.sq false ((lcK t el xs k0).1.map g)) (WK (lcK t el xs k0).2) := by
  have kAt : ∀ i x, xs[i]? = some x → lcK t el (xs.take (i + 1)) k0 = (let r := lcK t el (xs.take i) k0; if (t x r.2).1 = true then (r.1 ++ [(el x (t x r.2).2).1], (el x (t x r.2).2).2) else (r.1, (t x r.2).2)) := fun i x hx => by
    rw [List.take_add_one, hx]; exact lcK_snoc t el x _ k0
  cases xs with
  | nil =>
    exact lc_G (n := 0) (Wf := fun _ => WK k0) (Wm := fun _ => WK k0) (p := fun _ => false) (g := fun _ => D.non) hi rfl (fun i d h => by simp at h) (fun _ _ _ => rfl) (Nat.zero_le _)
  | cons x0 xs' =>
    generalize hxs : x0 :: xs' = ys at *
    have key : ∀ i, i ≤ ys.length → ((List.range i).filter (fun i => (t (ys.getD i x0) (lcK t el (ys.take i) k0).2).1)).map (fun i => g (el (ys.getD i x0) (t (ys.getD i x0) (lcK t el (ys.take i) k0).2).2).1) = (lcK t el (ys.take i) k0).1.map g := by
      intro i
      induction i with
      | zero => intro _; rfl
      | succ i ih =>
        intro hi
        have hx : ys[i]? = some ys[i] := by simp [show i < ys.length from hi]
        have hd : ys.getD i x0 = ys[i] := by rw [List.getD_eq_getElem?_getD, hx]; rfl
        rw [List.range_succ, List.filter_append, List.map_append, ih (Nat.le_of_succ_le hi), kAt i _ hx]
        by_cases h : (t ys[i] (lcK t el (ys.take i) k0).2).1 = true
        · simp only [List.filter_cons, hd, h, if_true, List.filter_nil, List.map_cons, List.map_nil, List.map_append]
        · simp only [List.filter_cons, hd, h, if_false, List.filter_nil, List.map_nil, List.append_nil]; simp
    have e0 := key ys.length (Nat.le_refl _)
    rw [List.take_length] at e0
    rw [← e0]
    have e1 : (lcK t el ys k0).2 = (lcK t el (ys.take ys.length) k0).2 := by rw [List.take_length]
    rw [e1]
    refine lc_G (n := ys.length) (Wf := fun i => WK (lcK t el (ys.take i) k0).2) (Wm := fun i => WK (t (ys.getD i x0) (lcK t el (ys.take i) k0).2).2) hi (by rw [List.length_map]) (fun i d h v F1 ex r => ?_) (fun i hi hp => ?_) hz
    · rw [List.getElem?_map, Option.map_eq_some_iff] at h
      obtain ⟨x, hx, rfl⟩ := h
      have hd : ys.getD i x0 = x := by rw [List.getD_eq_getElem?_getD, hx]; rfl
      rw [hd, kAt i x hx]
      have b := body x (List.mem_of_getElem? hx) (lcK t el (ys.take i) k0).2 v F1 ex r
      intro s H0 C cl fp H w Q qq
      refine b s H0 C cl fp H w Q fun σ2 ⟨h1, h2, h3⟩ => qq σ2 ⟨h1, h2, fun ht => ?_⟩
      have ht' : (t x (lcK t el (ys.take i) k0).2).1 = true := ht
      simp only [ht', if_true]
      exact h3 ht
    · have hx : ys[i]? = some ys[i] := by simp [hi]
      have hd : ys.getD i x0 = ys[i] := by rw [List.getD_eq_getElem?_getD, hx]; rfl
      show WK _ = WK _
      have hp : (t (ys.getD i x0) (lcK t el (ys.take i) k0).2).1 = false := hp
      rw [kAt i _ hx]
      rw [hd] at hp ⊢
      simp only [hp, Bool.false_eq_true, if_false]
end
end Z
set_option Elab.async false
set_option linter.all false
set_option maxRecDepth 100000
set_option maxHeartbeats 1000000
namespace Z
open PySem PySem.Spec PyProof.Rows L2
section
variable {X : Cx} {e a b c o tg iter elt : Expr} {es ifs : List Expr} {σ : L2.St} {F F1 W W1 W2 W3 : Hp} {d d1 d2 d3 : D} {ds : List D} {q q1 q2 : Bool} {pos p p2 apos : Pos} {i j : Int} {n k : Nat} {A : AE} {rest body : List Stmt}
/-! ### chains of two -/
theorem ev_ch {op op' : CmpOp} (ha : EvS X a σ F W d1 W) (hb : EvS X b σ F W d2 W) (h1 : CmpR X op F W d1 d2 q1) (hc : q1 = true → EvS X c σ F W d3 W) (h2 : CmpR X op' F W d2 d3 q2) (hm : lastMarks [op, op'] [b, c] = false := by with_unfolding_all rfl) : EvS X (.Compare a [op, op'] [b, c] pos) σ F W (.bl (q1 && q2)) W := fun H w Q qq => by
  obtain ⟨r, ho, hr⟩ := h1.ex
  obtain ⟨r', ho', hr'⟩ := h2.ex
  exact tm_of (pe_chain ho ho' pe_tm pe_tm pe_tm hm) (ha H w _ fun v1 F1 H1 g1 r1 => (hb.mono g1.ex).then g1 fun v2 F2 H2 g2 g02 r2 =>
    hr v1 v2 F2 H2 g02.ex (r1.mono g2.ex) r2 g2.st _ fun v F3 H3 g3 r3 => by
      cases r3
      refine ⟨q1, rfl, ?_⟩
      cases q1 with
      | false => exact qq _ F3 H3 (g02.trans g3) (.bl _)
      | true => exact ((hc rfl).mono (g02.trans g3).ex).then (g02.trans g3) fun v4 F4 H4 g4 g04 r4 => hr' v2 v4 F4 H4 g04.ex (r2.mono (g3.ex.trans g4.ex)) r4 g4.st Q fun v F' H' g r => qq v F' H' (g04.trans g) r)
theorem et_ch {op op' : CmpOp} (ha : EvS X a σ F W d1 W) (hb : EvS X b σ F W d2 W) (h1 : CmpR X op F W d1 d2 q1) (hc : q1 = true → EvS X c σ F W d3 W) (h2 : CmpR X op' F W d2 d3 q2) (hm : lastMarks [op, op'] [b, c] = false := by with_unfolding_all rfl) : EvT X (.Compare a [op, op'] [b, c] pos) σ F W (q1 && q2) W := fun H w Q qq => by
  obtain ⟨r, ho, hr⟩ := h1.ex
  obtain ⟨r', ho', hr'⟩ := h2.ex
  exact tmT_of (pt_chain ho ho' pe_tm pe_tm pe_tm hm) (ha H w _ fun v1 F1 H1 g1 r1 => (hb.mono g1.ex).then g1 fun v2 F2 H2 g2 g02 r2 =>
    hr v1 v2 F2 H2 g02.ex (r1.mono g2.ex) r2 g2.st _ fun v F3 H3 g3 r3 => by
      cases r3
      refine ⟨q1, rfl, ?_⟩
      cases q1 with
      | false => exact ⟨false, rfl, qq F3 H3 (g02.trans g3)⟩
      | true => exact ((hc rfl).mono (g02.trans g3).ex).then (g02.trans g3) fun v4 F4 H4 g4 g04 r4 => hr' v2 v4 F4 H4 g04.ex (r2.mono (g3.ex.trans g4.ex)) r4 g4.st _ fun v F' H' g r => (match v, r with | _, .bl _ => ⟨q2, rfl, qq F' H' (g04.trans g)⟩))
/-! ### typed rows -/
section
variable {α β γ : Type} {f : α → D} {g : β → D} {t u : Bool} {xs ys : List α} {zs : List β} {x y z : α}
theorem cl_lenR : CalR X (.builtin "len") F W [eR t f xs] (.int xs.length) := (cl_len (xs := xs.map f)).is (by rw [List.length_map])
theorem cl_listR : CalR X (.type "list") F W [eR t f xs] (eR false f xs) := cl_list
theorem cl_tupleR : CalR X (.type "tuple") F W [eR t f xs] (eR true f xs) := cl_tuple
theorem ev_catR (ha : EvS X a σ F W (eR false f xs) W1) (hb : EvS X b σ F W1 (eR false f ys) W2) (hz : xs.length + ys.length ≤ 100000) : EvS X (.BinOp a .Add b pos) σ F W (eR false f (xs ++ ys)) W2 :=
  ev_is (ev_cat ha hb (by simpa using hz)) (by unfold eR; rw [List.map_append])
theorem ev_catTR (ha : EvS X a σ F W (eR true f xs) W1) (hb : EvS X b σ F W1 (eR true f ys) W2) (hne : xs ≠ []) (hz : xs.length + ys.length ≤ 100000) : EvS X (.BinOp a .Add b pos) σ F W (eR true f (xs ++ ys)) W2 :=
  ev_is (ev_catT ha hb (by simpa using hne) (by simpa using hz)) (by unfold eR; rw [List.map_append])
theorem ev_repR {m : Int} (ha : EvS X a σ F W (eR false f xs) W1) (hb : EvS X b σ F W1 (.int m) W2) (hk : m ≤ 100000) (hz : xs.length * m.toNat ≤ 100000) (h0 : -100000 ≤ m) : EvS X (.BinOp a .Mult b pos) σ F W (eR false f (List.replicate m.toNat xs).flatten) W2 :=
  ev_is (ev_rep ha hb hk (by simpa using hz) h0) (by unfold eR; rw [List.map_flatten, List.map_replicate])
theorem ev_lstR (xs : List α) (h : EvA X es σ F W (xs.map f) W1) (hz : xs.length ≤ 100000) : EvS X (.List es pos) σ F W (eR false f xs) W1 := ev_lst h (by simpa using hz)
theorem ev_tupR {x1} (xs : List α) (h : EvA X es σ F W (xs.map f) W1) (hz : xs.length ≤ 100000) : EvS X (.Tuple es x1 pos) σ F W (eR true f xs) W1 := ev_tup h (by simpa using hz)
/-- [*xs, ..] / (*xs, ..) -/
theorem ea_starR {ws : List α} (ha : EvS X e σ F W (eR t f xs) W1) (hr : EvA X es σ F W1 (ws.map f) W2) (hs : starEach (.Starred e p :: es) X.env = (true, eval e X.env) :: starEach es X.env := by rfl) : EvA X (.Starred e p :: es) σ F W ((xs ++ ws).map f) W2 :=
  ea_is (ea_star ha hr hs) (by rw [List.map_append])
theorem ea_consR {x : α} {ws : List α} (ha : EvS X e σ F W (f x) W1) (hr : EvA X es σ F W1 (ws.map f) W2) (hs : starEach (e :: es) X.env = (false, eval e X.env) :: starEach es X.env := by rfl) : EvA X (e :: es) σ F W ((x :: ws).map f) W2 := ea_cons ha hr hs
theorem ea_nilR : EvA X [] σ F W (([] : List α).map f) W := ea_nil
def enumT (xs : List α) : List (Int × α) := xs.zipIdx.map fun p => ((p.2 : Int), p.1)
theorem ei_enumR {elts : List Expr} {kk : Nat} {tpos : Pos} (hm : X.mg "enumerate" = none) (h : EvS X a σ F W (eR t f xs) W1) (hg : Gl X "enumerate" := by rfl) (hs : starEach [a] X.env = [(false, eval a X.env)] := by rfl) :
    EvI X (.Tuple elts kk tpos) (.Call (.Name "enumerate" p) [a] [] pos) σ F W ((enumT xs).map (eP D.int f)) W1 := by
  have e : (enumT xs).map (eP D.int f) = enumD (xs.map f) := by
    unfold enumT enumD
    rw [List.zipIdx_map, List.map_map, List.map_map]; rfl
  rw [e]
  exact ei_enum hm (ea_cons h ea_nil hs) hg hs
theorem ei_zipR {elts : List Expr} {kk : Nat} {tpos : Pos} (hm : X.mg "zip" = none) (ha : EvS X a σ F W (eR t f xs) W1) (hb : EvS X b σ F W1 (eR u g zs) W2) (hg : Gl X "zip" := by rfl) (hs : starEach [a, b] X.env = (false, eval a X.env) :: starEach [b] X.env := by rfl) (hs2 : starEach [b] X.env = (false, eval b X.env) :: starEach [] X.env := by rfl) (hpl : (backTo pos (starEach [b] X.env)).any (·.1) = false := by rfl) :
    EvI X (.Tuple elts kk tpos) (.Call (.Name "zip" p) [a, b] [] pos) σ F W ((xs.zip zs).map (eP f g)) W2 := by
  have e : (xs.zip zs).map (eP f g) = zipD (xs.map f) (zs.map g) := by
    unfold zipD
    rw [List.zip_map, List.map_map]; rfl
  rw [e]
  exact ei_zipG hm (ea_cons ha (ea_cons hb ea_nil hs2) hs) hg hs hpl
/-- comprehensions, typed -/
theorem lc_F {own : List (Str × Nat)} {scope : Scope} (pr : α → Bool) (el : α → β) (hi : EvI X tg iter σ F W (xs.map f) W1) (hz : xs.length ≤ 100000)
    (body : ∀ x ∈ xs, ∀ v F1, Same F F1 → Rep F1 v (f x) → Turn1 X scope (own.map (·.2)) tg ifs elt v σ F1 W1 (pr x) W1 (g (el x)) W1) : LcS X elt tg iter ifs scope own σ F W (eR false g ((xs.filter pr).map el)) W1 :=
  (lc_of (p := pr) (g := fun x => g (el x)) hi hz body).is (by unfold eR; rw [List.map_map]; rfl)
theorem lc_M {own : List (Str × Nat)} {scope : Scope} (el : α → β) (hi : EvI X tg iter σ F W (xs.map f) W1) (hz : xs.length ≤ 100000)
    (body : ∀ x ∈ xs, ∀ v F1, Same F F1 → Rep F1 v (f x) → Turn1 X scope (own.map (·.2)) tg ifs elt v σ F1 W1 true W1 (g (el x)) W1) : LcS X elt tg iter ifs scope own σ F W (eR false g (xs.map el)) W1 :=
  (lc_F (fun _ => true) el hi hz body).is (by rw [List.filter_eq_self.mpr (fun _ _ => rfl)])
/-- typed, drawing -/
theorem lc_KM {own : List (Str × Nat)} {scope : Scope} (WK : Nat → Hp) {k0 : Nat} (el : α → Nat → β × Nat) (hi : EvI X tg iter σ F W (xs.map f) (WK k0)) (hz : xs.length ≤ 100000)
    (body : ∀ x ∈ xs, ∀ k v F1, Same F F1 → Rep F1 v (f x) → Turn1 X scope (own.map (·.2)) tg ifs elt v σ F1 (WK k) true (WK k) (g (el x k).1) (WK (el x k).2)) :
    LcS X elt tg iter ifs scope own σ F W (eR false g (lcK (fun _ k => (true, k)) el xs k0).1) (WK (lcK (fun _ k => (true, k)) el xs k0).2) :=
  lc_K WK (fun _ k => (true, k)) el hi hz body
end
/-! ### a row is true unless empty -/
/-! ### three at once -/
theorem bl_par3 {i j l : Nat} {x y z : Str} {px py pz pt : Pos} {kt k2 pt2} (ha : EvA X [a, b, c] σ F W [d1, d2, d3] W1) (kk : ∀ v1 v2 v3 F1, Same F F1 → Rep F1 v1 d1 → Rep F1 v2 d2 → Rep F1 v3 d3 → BlkS X rest (((σ.set i (some v1)).set j (some v2)).set l (some v3)) F1 W1 A) (hi : X.N[i]? = some x := by rfl) (hj : X.N[j]? = some y := by rfl) (hl : X.N[l]? = some z := by rfl) (hij : i ≠ j := by decide) (hil : i ≠ l := by decide) (hjl : j ≠ l := by decide)
    (hx : X.env.scope.names.lookup x = some .local := by rfl) (hy : X.env.scope.names.lookup y = some .local := by rfl) (hz : X.env.scope.names.lookup z = some .local := by rfl) (hw : swappedStores [.Tuple [.Name x px, .Name y py, .Name z pz] kt pt] (.Tuple [a, b, c] k2 pt2) X.env = pure (some [x, y, z]) := by rfl)
    (hs : swapsWithSole [.Tuple [.Name x px, .Name y py, .Name z pz] kt pt] (.Tuple [a, b, c] k2 pt2) pos.line X.env = pure false := by rfl) (hc : X.calm = true := by rfl) (hN : X.N.Nodup := by first | assumption | decide +kernel) :
    BlkS X (.Assign [.Tuple [.Name x px, .Name y py, .Name z pz] kt pt] (.Tuple [a, b, c] k2 pt2) pos :: rest) σ F W A := fun H w E ok =>
  tmB_of (pss_cons (ps_par3 hc hN hi hj hl hij hil hjl hx hy hz pa_tm hw hs) pss_tm) (ha H w _ fun vs F1 H1 g r => by
    cases r with
    | cons r1 t =>
    cases t with
    | cons r2 t =>
    cases t with
    | cons r3 t =>
    cases t
    exact ⟨_, _, _, rfl, (kk _ _ _ F1 g.ex r1 r2 r3).run ok g⟩)
/-! ### for, with an early end: f tells what a turn makes of the state, or the end -/
def lpR {α S R : Type} (f : S → α → Except R S) : List α → S → Except R S
  | [], s => .ok s
  | x :: xs, s => match f s x with
    | .ok s' => lpR f xs s'
    | .error r => .error r
theorem lpR_app {α S R : Type} (f : S → α → Except R S) (ys : List α) : ∀ (xs : List α) (s : S), lpR f (xs ++ ys) s = match lpR f xs s with
    | .ok s' => lpR f ys s'
    | .error r => .error r
  | [], s => rfl
  | x :: xs, s => by
    simp only [List.cons_append, lpR]
    cases f s x with
    | ok s' => exact lpR_app f ys xs s'
    | error r => rfl
theorem bl_forR {α S R : Type} {xs : List α} {f : α → D} (hi : EvI X tg iter σ F W (xs.map f) W1) (st : S → α → Except R S) (s0 : S) (J : S → L2.St → Hp → Hp → Prop) (h0 : ∀ F1, Same F F1 → J s0 σ F1 W1)
    (hs : ∀ x ∈ xs, ∀ s, ∀ σ' F1 W', Same F F1 → J s σ' F1 W' → ∀ v F2, Same F1 F2 → Rep F2 v (f x) → TgT X tg v σ' F2 W' fun σ2 =>
      BlkS X body σ2 F2 W' { nx := fun σ3 F3 W3 => ∃ s', st s x = .ok s' ∧ J s' σ3 F3 W3, rt := fun d W3 => ∃ r, st s x = .error r ∧ (lpR st xs s0 = .error r → A.rt d W3), bk := fun σ' F' W' => ∃ r, st s x = .error r ∧ (lpR st xs s0 = .error r → BlkS X rest σ' F' W' A), ct := fun σ3 F3 W3 => ∃ s', st s x = .ok s' ∧ J s' σ3 F3 W3 })
    (hd : ∀ s, lpR st xs s0 = .ok s → ∀ σ' F1 W', Same F F1 → J s σ' F1 W' → BlkS X rest σ' F1 W' A) (hc : X.calm = true := by rfl) (hp : PassesOwn (model X.prog X.w) X.A X.env X.xe := by exact PassesOwn.never) (hf : ∀ x, foldedSetIterable iter X.env x = pure x := by intro _; rfl) :
    BlkS X (.For tg iter body [] pos :: rest) σ F W A :=
  bl_for (n := xs.length) hi (by rw [List.length_map]) (fun i σ' F' W' => ∃ s, lpR st (xs.take i) s0 = .ok s ∧ J s σ' F' W') (fun F1 e => ⟨s0, rfl, h0 F1 e⟩) (fun i d h σ' F1 W' e inv v F2 e2 r => by
    rw [List.getElem?_map, Option.map_eq_some_iff] at h
    obtain ⟨x, hx, rfl⟩ := h
    obtain ⟨s, hs1, inv⟩ := inv
    have hi' := (List.getElem?_eq_some_iff.mp hx).1
    have e1 : lpR st (xs.take (i + 1)) s0 = match st s x with
      | .ok s' => .ok s'
      | .error r => .error r := by
      rw [List.take_add_one, hx, lpR_app, hs1]
      show lpR st [x] s = _
      simp only [lpR]
    have hall : ∀ r, st s x = .error r → lpR st xs s0 = .error r := fun r hr => by
      have : xs = xs.take (i + 1) ++ xs.drop (i + 1) := (List.take_append_drop _ _).symm
      rw [this, lpR_app, e1, hr]
    intro H w Q k
    refine hs x (List.mem_of_getElem? hx) s σ' F1 W' e inv v F2 e2 r H w Q fun σ2 hb => k σ2 ?_
    intro H2 w2 E ok
    refine hb H2 w2 E ⟨fun σ' F' W' H' g q => ?_, fun d v F' W' H' g r q => ?_, fun σ' F' W' H' g q => ?_, fun σ' F' W' H' g q => ?_⟩
    · obtain ⟨s', hs', q⟩ := q
      exact ok.nx σ' F' W' H' g ⟨s', by rw [e1, hs'], q⟩
    · obtain ⟨r0, hr, q⟩ := q
      exact ok.rt d v F' W' H' g r (q (hall r0 hr))
    · obtain ⟨r0, hr, q⟩ := q
      exact ok.bk σ' F' W' H' g (q (hall r0 hr))
    · obtain ⟨s', hs', q⟩ := q
      exact ok.ct σ' F' W' H' g ⟨s', by rw [e1, hs'], q⟩) (fun σ' F1 W' e inv => by
    obtain ⟨s, hs1, inv⟩ := inv
    rw [List.take_length] at hs1
    exact hd s hs1 σ' F1 W' e inv) hc hp hf
end
end Z
set_option Elab.async false
set_option linter.all false
set_option maxRecDepth 100000
set_option maxHeartbeats 1000000
namespace Z
open PySem PySem.Spec PyProof.Rows L2
def ixI {α : Type} (d : α) (xs : List α) (i : Int) : α := (atI xs i).getD d
theorem ixI_nat {α : Type} {d : α} {xs : List α} {i : Nat} (h : i < xs.length) : ixI d xs (i : Int) = xs[i] := by
  unfold ixI atI ixN
  rw [if_pos (by omega), if_pos (by omega)]
  simp [h]
theorem ixI_pos {α : Type} {d : α} {xs : List α} {i : Int} (h0 : 0 ≤ i) (h : i < xs.length) : ixI d xs i = xs.getD i.toNat d := by
  unfold ixI atI ixN
  rw [if_pos (by omega), if_pos (by omega)]
  simp [List.getD_eq_getElem?_getD]
theorem ixI_at {α : Type} {d : α} {xs : List α} {i : Int} (h : -(xs.length : Int) ≤ i ∧ i < xs.length) : atI xs i = some (ixI d xs i) := by
  unfold ixI
  cases e : atI xs i with
  | some x => rfl
  | none =>
    exfalso
    unfold atI ixN at e
    by_cases h0 : 0 ≤ i
    · rw [if_pos h0, if_pos h.2] at e
      simp at e; omega
    · rw [if_neg h0, if_pos h.1] at e
      simp at e; omega
section
variable {X : Cx} {e a b c o tg iter elt : Expr} {es ifs : List Expr} {σ : L2.St} {F F1 W W1 W2 W3 : Hp} {d d1 d2 d3 : D} {ds : List D} {q q1 q2 : Bool} {pos p p2 apos : Pos} {i j : Int} {n k : Nat} {A : AE} {rest body sa sb : List Stmt}
theorem ev_gI {x : Str} (hm : ∃ t, X.mg x = some (.int i t)) (hg : Gl X x := by rfl) (hd : (x == ("__debug__" : Str)) = false := by decide) : EvS X (.Name x pos) σ F W (.int i) W := by
  obtain ⟨t, h⟩ := hm; exact ev_gint hg h hd
theorem ev_gS {x i : Str} (hm : ∃ t, X.mg x = some (.str i t)) (hg : Gl X x := by rfl) (hd : (x == ("__debug__" : Str)) = false := by decide) : EvS X (.Name x pos) σ F W (.str i) W := by
  obtain ⟨t, h⟩ := hm; exact ev_gstr hg h hd
theorem cm_isO {α : Type} {f : α → D} {x : Option α} (h : ∀ y, (f y).isN = false) : CmpR X .Is F W (eO f x) .non x.isNone := cm_is.is (by cases x with
  | none => rfl
  | some y => exact h y)
theorem cm_isnotO {α : Type} {f : α → D} {x : Option α} (h : ∀ y, (f y).isN = false) : CmpR X .IsNot F W (eO f x) .non (!x.isNone) := cm_isnot.is (by cases x with
  | none => rfl
  | some y => exact congrArg _ (h y))
theorem et_row {α : Type} {f : α → D} {xs : List α} {t : Bool} (h : EvS X e σ F W (eR t f xs) W1) (he : ∀ whole, isTrue e X.env whole = (do let v ← whole; standAt e.pos; holding [v] (truthy v)) := by intro _; rfl) : EvT X e σ F W (!decide (xs = [])) W1 := fun H w Q qq =>
  tmT_of (pt_truth pe_tm he) (h H w _ fun v F' H' g r => by
    obtain ⟨l, us, rfl, h1, s1, z1⟩ := Rep.sq_inv r
    refine ⟨_, ?_, qq F' H' g⟩
    have e : (!decide (xs = [])) = !us.isEmpty := by
      have := s1.length
      rw [List.length_map] at this
      cases xs with
      | nil => cases us with
        | nil => rfl
        | cons _ _ => simp at this
      | cons _ _ => cases us with
        | nil => simp at this
        | cons _ _ => simp
    rw [e]
    show (∃ xs, SqL X.K H' l xs ∧ (!us.isEmpty) = !xs.isEmpty) ∨ (∃ xs, SqT X.K H' l xs ∧ (!us.isEmpty) = !xs.isEmpty) ∨ ∃ kvs, H' l = some (.dK kvs) ∧ (!us.isEmpty) = !kvs.isEmpty
    have := sqo_of (K := X.K) g.st h1
    cases t with
    | false => exact .inl ⟨us, this, rfl⟩
    | true => exact .inr (.inl ⟨us, this, rfl⟩))
theorem et_int (h : EvS X e σ F W (.int i) W1) (he : ∀ whole, isTrue e X.env whole = (do let v ← whole; standAt e.pos; holding [v] (truthy v)) := by intro _; rfl) : EvT X e σ F W (!decide (i = 0)) W1 := fun H w Q qq =>
  tmT_of (pt_truth pe_tm he) (h H w _ fun v F' H' g r => by
    cases r
    refine ⟨_, ?_, qq F' H' g⟩
    show (!decide (i = 0)) = (i != 0)
    by_cases h : i = 0 <;> simp [h])
section
variable {α β γ : Type} [DecidableEq α] [DecidableEq β] [DecidableEq γ] {f : α → D} {g : β → D} {h : γ → D} {m1 m2 m3 : Nat}
theorem Lw.pairM (a : Lw f m1) (b : Lw g m2) : Lw (eP f g) (max m1 m2 + 1) := (a.mono (Nat.le_max_left _ _)).pair (b.mono (Nat.le_max_right _ _))
theorem Lw.tripM (a : Lw f m1) (b : Lw g m2) (c : Lw h m3) : Lw (eP3 f g h) (max m1 (max m2 m3) + 1) := (a.mono (Nat.le_max_left _ _)).triple (b.mono (Nat.le_trans (Nat.le_max_left _ _) (Nat.le_max_right _ _))) (c.mono (Nat.le_trans (Nat.le_max_right _ _) (Nat.le_max_right _ _)))
end
theorem ev_isRow {α : Type} {f : α → D} {xs : List α} {t : Bool} {y y2 : Str} {p3 : Pos} {k3 p4}
    (h : ∀ {T : String} {q q2 : Bool}, (Z.eR t f xs).ty = some T → kitB T "list" = some q → kitB T "tuple" = some q2 → EvS X (.Call (.Name "isinstance" p) [e, .Tuple [.Name y p2, .Name y2 p3] k3 p4] [] pos) σ F W (.bl (q || q2)) W1) : EvS X (.Call (.Name "isinstance" p) [e, .Tuple [.Name y p2, .Name y2 p3] k3 p4] [] pos) σ F W (.bl true) W1 := by
  cases t with
  | false => exact h (T := "list") (q := true) (q2 := false) rfl (by decide +kernel) (by decide +kernel)
  | true => exact h (T := "tuple") (q := false) (q2 := true) rfl (by decide +kernel) (by decide +kernel)
/-! ### ifs by value -/
theorem bl_whenR {α : Type} {f : α → D} {x y : α} {Wz : Hp} {N : L2.St → Hp → Hp → Prop} (hc : EvT X c σ F W q W1) (ha : q = true → BlkS X sa σ F W1 { nx := fun _ _ _ => False, rt := fun d' W2 => d' = f x ∧ W2 = Wz })
    (hb : q = false → BlkS X rest σ F W1 { nx := N, rt := fun d' W2 => d' = f y ∧ W2 = Wz }) : BlkS X (.If c sa [] pos :: rest) σ F W { nx := N, rt := fun d' W2 => d' = f (if q = true then x else y) ∧ W2 = Wz } :=
  bl_when hc (fun h => by
    subst h
    intro H w E ok
    exact ha rfl H w E ⟨fun σ' F' W' H' g k => k.elim, fun d v F' W' H' g r k => ok.rt d v F' W' H' g r k, fun σ' F' W' H' g k => k.elim, fun σ' F' W' H' g k => k.elim⟩) (fun h => by subst h; exact hb rfl)
theorem bl_ifR {α : Type} {f : α → D} {x y : α} {Wz : Hp} {N : L2.St → Hp → Hp → Prop} (hc : EvT X c σ F W q W1) (ha : q = true → BlkS X sa σ F W1 { nx := fun _ _ _ => False, rt := fun d' W2 => d' = f x ∧ W2 = Wz })
    (hb : q = false → BlkS X sb σ F W1 { nx := fun _ _ _ => False, rt := fun d' W2 => d' = f y ∧ W2 = Wz }) : BlkS X (.If c sa sb pos :: rest) σ F W { nx := N, rt := fun d' W2 => d' = f (if q = true then x else y) ∧ W2 = Wz } :=
  bl_if hc (fun h => by
    subst h
    intro H w E ok
    exact ha rfl H w E ⟨fun σ' F' W' H' g k => k.elim, fun d v F' W' H' g r k => ok.rt d v F' W' H' g r k, fun σ' F' W' H' g k => k.elim, fun σ' F' W' H' g k => k.elim⟩) (fun h => by
    subst h
    intro H w E ok
    exact hb rfl H w E ⟨fun σ' F' W' H' g k => k.elim, fun d v F' W' H' g r k => ok.rt d v F' W' H' g r k, fun σ' F' W' H' g k => k.elim, fun σ' F' W' H' g k => k.elim⟩)
theorem bl_never (hc : EvT X c σ F W q W1) (hq : q = false) (k : BlkS X rest σ F W1 A) : BlkS X (.If c sa [] pos :: rest) σ F W A := bl_when hc (fun h => absurd (hq.symm.trans h) (by decide)) fun _ => k
theorem bl_setLW {l : Addr} {vs : List V} {j : Int} {j' : Nat} {tpos : Pos} (he : EvS X e σ F W d W1) (ha : EvS X a σ F W1 (.ow l) W1) (hb : EvS X b σ F W1 (.int j) W1) (hw : W1 l = some (.lst vs)) (hj0 : j = (j' : Int)) (hj : j' < vs.length) (kk : ∀ v F1, Same F F1 → Rep F1 v d → BlkS X rest σ F1 (upd W1 l (.lst (vs.set j' v))) A)
    (hg : ∀ v, assign (.Subscript a b tpos) X.env v = (do
      let ov ← holding [v] (eval a X.env)
      let iv ← holding [v, ov] (eval b X.env)
      standAt tpos
      holding [v, ov, iv] (setItem ov iv v)
      release [v, ov, iv] []) := by intro _; rfl)
    (hs : swapsWithSole [.Subscript a b tpos] e pos.line X.env = pure false := by rfl) (hsw : swappedStores [.Subscript a b tpos] e X.env = pure none := by rfl) (h1 : (assignEach [.Subscript a b tpos] X.env).map (·.2) = [assign (.Subscript a b tpos) X.env] := by rfl) :
    BlkS X (.Assign [.Subscript a b tpos] e pos :: rest) σ F W A := fun H w E ok =>
  tmB_of (pss_cons (ps_asg pe_tm (pg_sub pe_tm pe_tm set_list hg) hs hsw h1) pss_tm) (he H w _ fun v F1 H1 g r => (ha.mono g.ex).then g fun v2 F2 H2 g2 g02 r2 => (hb.mono g02.ex).then g02 fun v3 F3 H3 g3 g03 r3 => by
    cases r2; cases r3
    refine ⟨l, vs, j, j', rfl, rfl, g03.st.w l _ hw, ?_, (kk v F3 g03.ex (r.mono (g2.ex.trans g3.ex))).run ok (g03.trans (Go.put g03.st hw))⟩
    unfold ixN
    subst hj0
    rw [if_pos (by omega), if_pos (by omega)]; simp)
end
section
variable {X : Cx} {tg iter : Expr} {σ : L2.St} {F W W1 : Hp} {pos : Pos} {A : AE} {rest body : List Stmt}
theorem bl_forS {α S : Type} {xs : List α} {f : α → D} (hi : EvI X tg iter σ F W (xs.map f) W1) (st : S → α → S) (s0 : S) (J : S → L2.St → Hp → Hp → Prop) (h0 : ∀ F1, Same F F1 → J s0 σ F1 W1)
    (hs : ∀ x ∈ xs, ∀ s, ∀ σ' F1 W', Same F F1 → J s σ' F1 W' → ∀ v F2, Same F1 F2 → Rep F2 v (f x) → TgT X tg v σ' F2 W' fun σ2 =>
      BlkS X body σ2 F2 W' { nx := J (st s x), rt := A.rt, bk := fun σ' F' W' => BlkS X rest σ' F' W' A, ct := J (st s x) })
    (hd : ∀ σ' F1 W', Same F F1 → J (xs.foldl st s0) σ' F1 W' → BlkS X rest σ' F1 W' A) (hc : X.calm = true := by rfl) (hp : PassesOwn (model X.prog X.w) X.A X.env X.xe := by exact PassesOwn.never) (hf : ∀ x, foldedSetIterable iter X.env x = pure x := by intro _; rfl) :
    BlkS X (.For tg iter body [] pos :: rest) σ F W A :=
  bl_forL hi st s0 J h0 (fun pr x po e σ' F1 W' e1 j v F2 e2 r => hs x (by rw [e]; simp) _ σ' F1 W' e1 j v F2 e2 r) hd hc hp hf
theorem bl_nilJ {S : Type} {J : S → L2.St → Hp → Hp → Prop} {s1 s2 : S} {R : D → Hp → Prop} {B C : L2.St → Hp → Hp → Prop} (e : s1 = s2) (h : J s2 σ F W) : BlkS X [] σ F W { nx := J s1, rt := R, bk := B, ct := C } := bl_nil (by rw [e]; exact h)
end
theorem rg_mem {lo hi x : Int} : x ∈ rg lo hi ↔ lo ≤ x ∧ x < hi := by
  unfold rg
  rw [List.mem_map]
  constructor
  · rintro ⟨i, hi', rfl⟩
    rw [List.mem_range] at hi'
    omega
  · intro h
    exact ⟨(x - lo).toNat, by rw [List.mem_range]; omega, by omega⟩
theorem rep_len {α : Type} {f : α → D} {t : Bool} {xs : List α} {F : Hp} {v : V} (r : Rep F v (eR t f xs)) : xs.length ≤ 100000 := by
  obtain ⟨_, _, _, _, _, z⟩ := Rep.sq_inv r
  rw [List.length_map] at z; exact z
theorem enumT_len {α : Type} {xs : List α} : (enumT xs).length = xs.length := by unfold enumT; rw [List.length_map, List.length_zipIdx]
theorem enumT_mem {α : Type} {xs : List α} {x : Int × α} (h : x ∈ enumT xs) : 0 ≤ x.1 ∧ x.1 < xs.length ∧ x.2 ∈ xs := by
  unfold enumT at h
  rw [List.mem_map] at h
  obtain ⟨p, hp, rfl⟩ := h
  obtain ⟨a, i⟩ := p
  have := List.mem_zipIdx hp
  simp only at this ⊢
  refine ⟨by omega, by omega, ?_⟩
  obtain ⟨_, h2, h3⟩ := this
  rw [h3]; exact List.getElem_mem _
end Z
set_option Elab.async false
set_option linter.all false
set_option maxRecDepth 100000
set_option maxHeartbeats 1000000
namespace Z
open PySem PySem.Spec PyProof.Rows L2
section
variable {X : Cx} {F W W1 : Hp} {σ : L2.St} {tg iter : Expr} {pos : Pos} {A : AE} {rest body : List Stmt}
theorem cr_sumT (hc : X.calm = true) : CallR X (.builtin "sum") (fun vs H Q => ∃ (a : Addr) (ns : List Int), vs = [V.ref a] ∧ SqT X.K H a (ns.map V.int) ∧ Q (.int ns.sum) H) := by
  intro pins s σ H vs us Q I r h
  obtain ⟨a, ns, rfl, hs, q⟩ := h
  obtain ⟨its, rv, tp, _⟩ := I.tuple hs
  rw [Vals.ref1 r]
  have hi := rv.ints
  obtain ⟨xs, e⟩ := hi.allInts.items
  have hn : numsOf (intItems xs).toList = ns := by rw [← e]; exact hi.numsOf
  rw [nums_intItems] at hn
  rw [e] at tp
  have tp' : s.heap.IsTuple a (intItems xs) := tp
  have hlt : a < s.heap.objs.size := by obtain ⟨o, ho, _⟩ := id tp'; exact Heap.lt_size ho
  refine call_sum_walkG (wpAny_pyIter_tuple tp' ?_)
  refine ⟨s.heap.objs.size, [s.heap.objs.size, a], [s.heap.objs.size], (intItems xs).size, _, _, numAt xs, rfl, Walks.tuple (by exact I.ok.hd hc) _ a (Nat.ne_of_lt hlt) (intItems xs), ⟨⟨_, Heap.get?_push_size _ rfl, rfl, rfl⟩, tp'.push _⟩, ?_, ?_, ?_⟩
  · intro b hb
    have : (s.heap.push { cls := .type "tuple_iterator", data := .fields #[.ref a, .int 0 0] }).objs.size = s.heap.objs.size + 1 := by simp [Heap.push]
    rcases List.mem_cons.mp hb with e | hb
    · rw [e]; show _ < (s.heap.push _).objs.size; omega
    · rw [List.mem_singleton.mp hb]; show _ < (s.heap.push _).objs.size; rw [this]; exact Nat.lt_succ_of_lt hlt
  · intro i v hv
    exact intItems_at hv
  · intro h' tk t' hk
    have keep : ∀ b o, s.heap.get? b = some o → h'.get? b = some o := fun b o e => hk b o (fun hm => absurd (Heap.lt_size e) (by rw [List.mem_singleton.mp hm]; exact Nat.lt_irrefl _)) (Heap.get?_push_of_some _ e)
    refine ⟨.int ns.sum, H, I.kept keep, ⟨t', ?_⟩, q⟩
    have hsz : (intItems xs).size = xs.size := by unfold intItems; simp
    rw [preSum_eq, List.take_of_length_le (by simp [hsz]), hn]
theorem cl_sumT {ns : List Int} (hc : X.calm = true := by rfl) : CalR X (.builtin "sum") F W [eR true D.int ns] (.int ns.sum) := ⟨_, cr_sumT hc, fun vs F1 H1 _ r w Q q => by
  cases r with
  | cons r t =>
    cases t
    obtain ⟨l, rfl, h1, z⟩ := rep_ints r
    exact ⟨l, ns, rfl, sqo_of (t := true) w h1, q _ F1 H1 (Go.refl w) (.int _)⟩⟩
theorem en_repR {α : Type} {f : α → D} {a b : Expr} {pos : Pos} {xs : List α} {k : Int} {W2 : Hp} (ha : EvS X a σ F W (eR false f xs) W1) (hb : EvS X b σ F W1 (.int k) W2) (hk : k ≤ 100000) (hz : xs.length * k.toNat ≤ 100000) (h0 : -100000 ≤ k) : EvN X (.BinOp a .Mult b pos) σ F W (((List.replicate k.toNat xs).flatten).map f) W2 := by
  have := en_rep (pos := pos) ha hb hk (by simpa using hz) h0
  rw [List.map_flatten, List.map_replicate]; exact this
theorem en_listR {α : Type} {f : α → D} {e : Expr} {p pos : Pos} {xs : List α} {t : Bool} (hm : X.mg "list" = none) (ha : EvS X e σ F W (eR t f xs) W1) (hv : bootBuiltins "list" = some (.type "list") := by decide +kernel) (hg : Gl X "list" := by rfl) (he : starEach [e] X.env = (false, eval e X.env) :: starEach [] X.env := by rfl) : EvN X (.Call (.Name "list" p) [e] [] pos) σ F W (xs.map f) W1 := en_list (y := "list") hm (ea_cons ha ea_nil he) hv hg he
theorem bl_forI {α S : Type} {xs : List α} {f : α → D} (hi : EvI X tg iter σ F W (xs.map f) W1) (st : S → α → S) (s0 : S) (J : Nat → S → L2.St → Hp → Hp → Prop) (h0 : ∀ F1, Same F F1 → J 0 s0 σ F1 W1)
    (hs : ∀ i x, i < xs.length → x ∈ xs → ∀ s, ∀ σ' F1 W', Same F F1 → J i s σ' F1 W' → ∀ v F2, Same F1 F2 → Rep F2 v (f x) → TgT X tg v σ' F2 W' fun σ2 =>
      BlkS X body σ2 F2 W' { nx := J (i + 1) (st s x), rt := A.rt, bk := fun σ' F' W' => BlkS X rest σ' F' W' A, ct := J (i + 1) (st s x) })
    (hd : ∀ σ' F1 W', Same F F1 → J xs.length (xs.foldl st s0) σ' F1 W' → BlkS X rest σ' F1 W' A) (hc : X.calm = true := by rfl) (hp : PassesOwn (model X.prog X.w) X.A X.env X.xe := by exact PassesOwn.never) (hf : ∀ x, foldedSetIterable iter X.env x = pure x := by intro _; rfl) :
    BlkS X (.For tg iter body [] pos :: rest) σ F W A :=
  bl_for (n := xs.length) hi (by rw [List.length_map]) (fun i => J i ((xs.take i).foldl st s0)) h0 (fun i d h σ' F1 W' e inv v F2 e2 r => by
    rw [List.getElem?_map, Option.map_eq_some_iff] at h
    obtain ⟨x, hx, rfl⟩ := h
    have hi' := (List.getElem?_eq_some_iff.mp hx).1
    have e1 : (xs.take (i + 1)).foldl st s0 = st ((xs.take i).foldl st s0) x := by rw [List.take_add_one, hx, List.foldl_append]; rfl
    rw [e1]
    exact hs i x hi' (List.mem_of_getElem? hx) _ σ' F1 W' e inv v F2 e2 r) (fun σ' F1 W' e inv => hd σ' F1 W' e (by rw [List.take_length] at inv; exact inv)) hc hp hf
end
end Z
set_option Elab.async false
set_option linter.all false
set_option maxRecDepth 100000
set_option maxHeartbeats 1000000
namespace ZSort
open PySem PyProof.Rows Srt SrtO PyProof.Rows
section
variable {prog : Program} {w : World} {A : Around} {E : Value → Shared → Prop} {s : Shared}
/-- all of a tuple, into a new list -/
theorem collect_row {l : Addr} {vs : List Value} {Q : List Value → Shared → Prop} (hl : s.heap.IsTuple l vs.toArray)
    (h : Q vs { s with heap := (s.heap.push (seqObj "list" #[] 0)).update s.heap.objs.size (Obj.mapSeq (· ++ vs.toArray)) }) (hsz : vs.length ≤ sizeLine) :
    wpAny (model prog w) A (collect (.ref l)) Q E s := by
  obtain ⟨o, ho, hc, n, hd⟩ := id hl
  unfold collect
  refine wpAny_bind (wpAny_runValue (codeAny_builtin entry_proto_collect' ?_))
  show wpAny _ _ (do again (.builtin "list.__iadd__" ⟨[← newList [], .ref l], []⟩)) _ _ s
  refine wpAny_bind (wpAny_newList (wpAny_pure ⟨Code.quiet_builtin _ (by decide +kernel), codeAny_builtin entry_list_iadd' ?_⟩))
  show wpAny _ _ (Builtin.List.listExtendWith (.ref s.heap.objs.size) (.ref l) (.ref s.heap.objs.size)) _ _ { s with heap := s.heap.push (seqObj "list" #[] 0) }
  unfold Builtin.List.listExtendWith
  have ho' : (s.heap.push (seqObj "list" #[] 0)).get? l = some o := Heap.get?_push_of_some _ ho
  refine wpAny_bind (wpAny_typeOf (T := "tuple") ⟨o, ho', hc⟩ ?_)
  have ht : (Value.type "tuple" == Value.type "tuple") = true := by rfl
  rw [if_pos (by rw [ht]; simp)]
  refine wpAny_bind (listItems_at ho' hd ?_)
  refine wpAny_bind (listItems_at (xs := #[]) (n := 0) (Heap.get?_push_size _ rfl) rfl ?_)
  rw [if_neg (by simp)]
  refine wpAny_bind (listUpdate_at (xs := #[]) (n := 0) (Heap.get?_push_size _ rfl) rfl ?_ (Nat.zero_le _) (by show (#[] ++ vs.toArray).size ≤ sizeLine + 1; simp only [Array.size_append, List.size_toArray, List.length_nil]; omega))
  refine wpAny_pure ?_
  show wpAny (model prog w) A (do
      let o ← load s.heap.objs.size
      match o.data with
      | .seq xs _ => pure xs.toList
      | _ => unsupported "internal:collect") Q E { s with heap := (s.heap.push (seqObj "list" #[] 0)).update s.heap.objs.size (Obj.mapSeq (· ++ vs.toArray)) }
  refine wpAny_bind (wpAny_load (get?_update_seq (Heap.get?_push_size _ rfl) _) ?_)
  show wpAny _ _ (pure ((#[] : Array Value) ++ vs.toArray).toList) Q E _
  rw [show ((#[] : Array Value) ++ vs.toArray).toList = vs by simp]
  exact wpAny_pure h
theorem sorted_row {l : Addr} {vs : List Value} {ltv : Value → Value → Bool} {Q : Value → Shared → Prop} (O : Swo ltv) (hl : s.heap.IsTuple l vs.toArray) (hz : vs.length ≤ sizeLine)
    (hS : 2 ≤ vs.length → ∀ (h₁ : Heap) (a : Addr), h₁.get? a = some (seqObj "list" vs.toArray 0) → (∀ b o, s.heap.get? b = some o → b ≠ a ∧ h₁.get? b = some o) → SortableO prog w A.in1.in1 { s with heap := h₁ } a vs ltv)
    (h : ∀ out : List Value, Srtd ltv out → Stb ltv out vs → Q (.ref (s.heap.objs.size + 1)) { s with heap := sortedAll s.heap vs out.toArray }) :
    wpAny (model prog w) A (call (.builtin "sorted") [.ref l]) Q E s := by
  refine Calls.call_function_entry kind_sorted plain_sorted entry_sorted (args_sorted1 _) ?_
  unfold Builtin.«sorted»
  refine wpAny_bind (m := checkCount "sorted" 1 1 _) (wpAny_pure ?_)
  refine wpAny_bind (collect_row hl ?_ hz)
  refine wpAny_bind (wpAny_newList ?_ hz)
  have hsz : ((s.heap.push (seqObj "list" #[] 0)).update s.heap.objs.size (Obj.mapSeq (· ++ vs.toArray))).objs.size = s.heap.objs.size + 1 := by
    rw [Heap.size_update, size_push']
  have hoL : (((s.heap.push (seqObj "list" #[] 0)).update s.heap.objs.size (Obj.mapSeq (· ++ vs.toArray))).push (seqObj "list" vs.toArray 0)).get? (s.heap.objs.size + 1) = some (seqObj "list" vs.toArray 0) := by
    rw [← hsz]; exact Heap.get?_push_size _ rfl
  have keep : ∀ b o, s.heap.get? b = some o → b ≠ s.heap.objs.size + 1 ∧ (((s.heap.push (seqObj "list" #[] 0)).update s.heap.objs.size (Obj.mapSeq (· ++ vs.toArray))).push (seqObj "list" vs.toArray 0)).get? b = some o := fun b o q => by
    have hlt : b < s.heap.objs.size := Heap.lt_size q
    refine ⟨Nat.ne_of_lt (Nat.lt_succ_of_lt hlt), Heap.get?_push_of_some _ ?_⟩
    rw [Heap.get?_update_ne _ _ _ _ (Nat.ne_of_lt hlt)]
    exact Heap.get?_push_of_some _ q
  show wpAny _ _ _ _ _ { s with heap := ((s.heap.push (seqObj "list" #[] 0)).update s.heap.objs.size (Obj.mapSeq (· ++ vs.toArray))).push (seqObj "list" vs.toArray 0) }
  rw [hsz]
  refine wpAny_bind (wpAny_holding (wpAny_call_entry slot_list_sort ⟨_, hoL, rfl⟩ entry_list_sort (list_sort_ord O hoL hz (fun h2 => hS h2 _ _ hoL keep) fun out hs hb => ⟨_, rfl, ?_⟩) (args_list_sort _)))
  exact wpAny_pure ⟨_, rfl, h out hs hb⟩
end
end ZSort
namespace Z
open PySem PySem.Spec PyProof.Rows L2
section
variable {X : Cx} {F W W1 : Hp}
theorem cr_sortedTI : CallR X (.builtin "sorted") (fun vs H Q => ∃ (a : Addr) (ns : List Int), vs = [V.ref a] ∧ SqT X.K H a (ns.map V.int) ∧ ∀ (ns' : List Int) (p : Addr), ns'.Perm ns → ns'.Pairwise (· ≤ ·) → H p = none → Q (.ref p) (upd H p (.lst (ns'.map V.int)))) := by
  intro pins s σ H vs us Q I r h
  obtain ⟨a, ns, rfl, hs, q⟩ := h
  obtain ⟨its, rv, hl, hz⟩ := I.tuple hs
  rw [Vals.ref1 r]
  have hi := rv.ints
  refine ZSort.sorted_row SrtO.swo_int hl (by rw [← rv.length]; exact hz) (fun h2 h₁ a' _ _ => SrtO.ints_sortable hi h2) fun out h1 h2 => ?_
  obtain ⟨k1, k2, k3⟩ := SrtO.ints_out hi h1 h2
  obtain ⟨ep, he'⟩ := PyProof.Rows.sortedAll_at s.heap its out.toArray
  have hlen : ((out.map SrtO.iv).map V.int).length ≤ sizeLine := by
    rw [List.length_map, k2.length_eq]
    rw [List.length_map] at hz
    exact hz
  exact ⟨.ref _, upd H (s.heap.objs.size + 1) (.lst ((out.map SrtO.iv).map V.int)), I.laid (t' := s.toks) (fun _ _ => PyProof.Rows.sortedAll_old) (Nat.le_succ _) ⟨hlen, out, ep, vals_of_ints k1, he'⟩, rfl, q _ _ k2 k3 (I.hok.fresh (Nat.le_succ _))⟩
theorem cl_sortedT {ns : List Int} : CalR X (.builtin "sorted") F W [eR true D.int ns] (eR false D.int (sortI ns)) := ⟨_, cr_sortedTI, fun vs F1 H1 _ r w Q q => by
  cases r with
  | cons r t =>
    cases t
    obtain ⟨l, rfl, h1, z⟩ := rep_ints r
    refine ⟨l, ns, rfl, sqo_of (t := true) w h1, fun ns' p hp hs hn => ?_⟩
    have e : ns' = sortI ns := PySem.W.os_sorted_mergeSort hp hs
    subst e
    exact q _ _ _ (Go.new w hn) (.sq (t := false) upd_same (Reps.of_ints _) (by rw [List.length_map, hp.length_eq]; exact z))⟩
theorem cl_sortedB {ns : List Int} : ∀ {t : Bool}, CalR X (.builtin "sorted") F W [eR t D.int ns] (eR false D.int (sortI ns))
  | true => cl_sortedT
  | false => cl_sortedI
end
theorem sortI_perm (ns : List Int) : (sortI ns).Perm ns := List.mergeSort_perm _ _
theorem sortI_mem {ns : List Int} {x : Int} : x ∈ sortI ns ↔ x ∈ ns := (sortI_perm ns).mem_iff
theorem sortI_len (ns : List Int) : (sortI ns).length = ns.length := (sortI_perm ns).length_eq
end Z
set_option Elab.async false
set_option linter.all false
set_option maxRecDepth 100000
set_option maxHeartbeats 1000000
namespace ZPl
open PySem PySem.Spec PySem.Calls PyProof.Rows L2 PySem.W
/-- a class with object's own __init__ -/
structure MkP (K : Frag) (C : Addr) : Prop where
  makes : makesIn K C = true
  init : findIn K (.ref C) "__init__" = some (some (.builtin "object.__init__"))
  kp : keepIn K (.ref C) = true
  top : mroIn K C (.type "object") = some true
section
variable {X : Cx} {C : Addr} {pins : List (Addr × Obj)} {σ : L2.St} {H : Hp} {s : Shared} {Q : VK}
theorem run_plain (M : MkP X.K C) (I : L2.Inv X pins σ H s) (h : ∀ x dx, H x = none → H dx = none → dx ≠ x → Q (.ref x) (upd (upd H dx (.own x)) x (.ins C dx []))) :
    wpAny (model X.prog X.w) X.A (call (.ref C) []) (EP X pins σ Q) X.xe s := by
  have hq := h (s.heap.objs.size + 1) s.heap.objs.size (I.hok.fresh (Nat.le_succ _)) (I.hok.fresh (Nat.le_refl _)) (Nat.ne_of_lt (Nat.lt_succ_self _))
  have I2 := Inv.made (C := C) I
  refine wpAny_call (make_map0 I.kIn M.makes M.init (fun self => Looks.of_pure (PySem.W.oi_bind _)) ?_)
  have ho : ((s.heap.push emptyDict).push (instObj C s.heap.objs.size)).get? (s.heap.objs.size + 1) = some (instObj C s.heap.objs.size) := by
    have e : (s.heap.push emptyDict).objs.size = s.heap.objs.size + 1 := Heap.size_push ..
    rw [← e]; exact Heap.get?_push_size _ rfl
  have t1 : Looks (model X.prog X.w) ((s.heap.push emptyDict).push (instObj C s.heap.objs.size)) (typeOf (.ref (s.heap.objs.size + 1))) (.ref C) := NwA.type_at ho rfl
  have t2 : Looks (model X.prog X.w) ((s.heap.push emptyDict).push (instObj C s.heap.objs.size)) (isInstance (.ref (s.heap.objs.size + 1)) (.type "object")) true := t1.andThen (looks_mroIn I2.kIn M.top)
  refine codeAny_call_builtin PySem.W.oi_plain PySem.W.entry_oi (@check_slot (model X.prog X.w) _ _ _ "object.__init__" "object" "__init__" (.ref (s.heap.objs.size + 1)) [] [] _ PySem.W.oi_kind PySem.W.oi_split t2 (PySem.W.oi_args _) ?_)
  rw [PySem.W.oi_run]
  exact wpAny_pure ⟨rfl, ⟨V.ref (s.heap.objs.size + 1), _, I2, rfl, hq⟩⟩
end
end ZPl
namespace Z
open PySem PySem.Spec PyProof.Rows L2
section
variable {X : Cx} {σ : L2.St} {F W : Hp} {C : Addr} {x : Str} {p pos : Pos}
theorem ev_plain (M : ZPl.MkP X.K C) (hm : X.mg x = some (.ref C)) (hg : Gl X x := by rfl) (hdb : (x == ("__debug__" : Str)) = false := by decide) : EvS X (.Call (.Name x p) [] [] pos) σ F W (.ob C []) W := fun H w Q q => by
  refine fun pins s I => wpAny_Call_Name_kw (ld_glob I hg hm ?_ hdb)
  refine PySem.W.callWith_K0 I.kIn M.kp (ZPl.run_plain M I fun a dx hx hd ne => ?_)
  have gm := Go.made (C := C) w hx hd ne
  have f1 := Go.freeze gm.st (p := a) upd_same
  have e1 : del (upd (upd W dx (.own a)) a (.ins C dx [])) a = upd W dx (.own a) := del_upd (by rw [upd_ne (Ne.symm ne)]; exact (w.fresh hx).2)
  rw [e1] at f1
  have f2 := Go.freeze f1.st (p := dx) upd_same
  rw [del_upd (w.fresh hd).2] at f2
  exact q _ _ _ (gm.trans (f1.trans f2)) (.ob (C := C) (dx := dx) (f2.ex _ _ upd_same) .nil)
end
end Z
set_option Elab.async false
set_option linter.all false
set_option maxRecDepth 100000
set_option maxHeartbeats 1000000
namespace Z
open PySem PySem.Spec PyProof.Rows L2
section
variable {X : Cx} {e a b a2 b2 c : Expr} {σ : L2.St} {F F1 W W1 W2 W3 : Hp} {d d1 d2 d3 : D} {q : Bool} {pos p t1p t2p tp : Pos} {A : AE} {rest body : List Stmt}
/-- l[i], l[j] = x, y -/
theorem bl_set2 {l : Addr} {vs : List V} {j1 j2 : Int} {n1 n2 kt : Nat} (he : EvS X e σ F W (.sq true [d1, d2]) W1) (ha : EvS X a σ F W1 (.ow l) W1) (hb : EvS X b σ F W1 (.int j1) W1) (hw : W1 l = some (.lst vs))
    (ha2 : ∀ v, EvS X a2 σ F (upd W1 l (.lst (vs.set n1 v))) (.ow l) (upd W1 l (.lst (vs.set n1 v)))) (hb2 : ∀ v, EvS X b2 σ F (upd W1 l (.lst (vs.set n1 v))) (.int j2) (upd W1 l (.lst (vs.set n1 v))))
    (e1 : j1 = (n1 : Int)) (h1 : n1 < vs.length) (e2 : j2 = (n2 : Int)) (h2 : n2 < vs.length) (kk : ∀ v1 v2 F1, Same F F1 → Rep F1 v1 d1 → Rep F1 v2 d2 → BlkS X rest σ F1 (upd W1 l (.lst ((vs.set n1 v1).set n2 v2))) A)
    (hg : ∀ v, assign (.Subscript a b t1p) X.env v = (do
      let ov ← holding [v] (eval a X.env)
      let iv ← holding [v, ov] (eval b X.env)
      standAt t1p
      holding [v, ov, iv] (setItem ov iv v)
      release [v, ov, iv] []) := by intro _; rfl)
    (hg2 : ∀ v, assign (.Subscript a2 b2 t2p) X.env v = (do
      let ov ← holding [v] (eval a2 X.env)
      let iv ← holding [v, ov] (eval b2 X.env)
      standAt t2p
      holding [v, ov, iv] (setItem ov iv v)
      release [v, ov, iv] []) := by intro _; rfl)
    (hs : swapsWithSole [.Tuple [.Subscript a b t1p, .Subscript a2 b2 t2p] kt tp] e pos.line X.env = pure false := by rfl) (hsw : swappedStores [.Tuple [.Subscript a b t1p, .Subscript a2 b2 t2p] kt tp] e X.env = pure none := by rfl)
    (hA : (assignEach [.Tuple [.Subscript a b t1p, .Subscript a2 b2 t2p] kt tp] X.env).map (·.2) = [assign (.Tuple [.Subscript a b t1p, .Subscript a2 b2 t2p] kt tp) X.env] := by rfl)
    (hn : (assignEach [.Subscript a b t1p, .Subscript a2 b2 t2p] X.env).length = 2 := by rfl) (hst : (assignEach [.Subscript a b t1p, .Subscript a2 b2 t2p] X.env).findIdx? (·.1) = none := by rfl)
    (hs1 : (assignEach [.Subscript a b t1p, .Subscript a2 b2 t2p] X.env).map (·.2) = assign (.Subscript a b t1p) X.env :: (assignEach [.Subscript a2 b2 t2p] X.env).map (·.2) := by rfl)
    (hs2 : (assignEach [.Subscript a2 b2 t2p] X.env).map (·.2) = assign (.Subscript a2 b2 t2p) X.env :: (assignEach [] X.env).map (·.2) := by rfl) (hc : X.calm = true := by rfl) :
    BlkS X (.Assign [.Tuple [.Subscript a b t1p, .Subscript a2 b2 t2p] kt tp] e pos :: rest) σ F W A := fun H w E ok =>
  tmB_of (pss_cons (ps_asg pe_tm (pg_tup hc (pgs_cons (pg_sub pe_tm pe_tm set_list hg) (pgs_cons (pg_sub pe_tm pe_tm set_list hg2) pgs_nil hs2) hs1) hn hst) hs hsw hA) pss_tm) (he H w _ fun v F1 H1 g r => by
    obtain ⟨l0, us, rfl, hl0, rs, z⟩ := r.sq_inv
    cases rs with
    | @cons u1 _ _ _ r1 rs =>
    cases rs with
    | @cons u2 _ _ _ r2 rs =>
    cases rs
    refine ⟨l0, _, rfl, sqo_of (t := true) g.st hl0, rfl, _, _, rfl, (ha.mono g.ex).then g fun v2 F2 H2 g2 g02 q2 => (hb.mono g02.ex).then g02 fun v3 F3 H3 g3 g03 q3 => ?_⟩
    cases q2; cases q3
    refine ⟨l, vs, j1, n1, rfl, rfl, g03.st.w l _ hw, ?_, ?_⟩
    · unfold ixN; subst e1; rw [if_pos (by omega), if_pos (by omega)]; simp
    have gp := g03.trans (Go.put (o := .lst (vs.set n1 u1)) g03.st hw)
    refine ⟨_, _, rfl, ((ha2 _).mono gp.ex).then gp fun v4 F4 H4 g4 g04 q4 => ((hb2 _).mono g04.ex).then g04 fun v5 F5 H5 g5 g05 q5 => ?_⟩
    cases q4; cases q5
    refine ⟨l, _, j2, n2, rfl, rfl, g05.st.w l _ upd_same, ?_, rfl, ?_⟩
    · unfold ixN; subst e2; rw [if_pos (by omega), if_pos (by rw [List.length_set]; omega)]; simp
    have gq := g05.trans (Go.put (o := .lst ((vs.set n1 u1).set n2 u2)) g05.st upd_same)
    rw [upd_upd] at gq
    exact (kk _ _ F5 g05.ex (r1.mono (g2.ex.trans (g3.ex.trans (g4.ex.trans g5.ex)))) (r2.mono (g2.ex.trans (g3.ex.trans (g4.ex.trans g5.ex))))).run ok gq)
/-- the script-reading cell -/
def WK (Wb : Hp) (dl sa : Addr) (k : Nat) : Hp := upd Wb dl (.lst [.ref sa, .int (k : Int)])
theorem WK_at {Wb : Hp} {dl sa : Addr} {k : Nat} : WK Wb dl sa k dl = some (.lst [.ref sa, .int (k : Int)]) := upd_same
theorem WK_next {Wb : Hp} {dl sa : Addr} {k : Nat} : upd (WK Wb dl sa k) dl (.lst [.ref sa, .int ((k : Int) + 1)]) = WK Wb dl sa (k + 1) := by unfold WK; rw [upd_upd]; rfl
/-- an if whose branch goes on -/
theorem bl_drop {l : Addr} {vs : List V} {ds : List D} {sts : List Stmt} (hw : W l = none) (r : Reps F vs ds) (hz : ds.length ≤ 100000) (k : ∀ F1, Same F F1 → BlkS X sts σ F1 W A) : BlkS X sts σ F (upd W l (.lst vs)) A :=
  bl_freeze upd_same r hz fun F1 e _ => by rw [del_upd hw]; exact k F1 e
end
section
variable {α β : Type} {t : α → Nat → Bool × Nat} {f : α → Nat → β × Nat}
theorem lcK_all {P : β → Prop} (h : ∀ x k, P (f x k).1) : ∀ (xs : List α) (k : Nat), ∀ y ∈ (lcK t f xs k).1, P y
  | [], _, y, hy => by simp [lcK] at hy
  | x :: xs, k, y, hy => by
    unfold lcK at hy
    split at hy
    · rcases List.mem_cons.mp hy with e | hy
      · rw [e]; exact h _ _
      · exact lcK_all h xs _ y hy
    · exact lcK_all h xs _ y hy
theorem lcK_len (ht : ∀ x k, (t x k).1 = true) : ∀ (xs : List α) (k : Nat), (lcK t f xs k).1.length = xs.length
  | [], _ => rfl
  | x :: xs, k => by
    unfold lcK
    rw [if_pos (ht x k), List.length_cons, List.length_cons, lcK_len ht xs]
theorem lcK_sub {f : α → Nat → α × Nat} (hf : ∀ x k, (f x k).1 = x) : ∀ (xs : List α) (k : Nat), ((lcK t f xs k).1).Sublist xs
  | [], _ => .slnil
  | x :: xs, k => by
    unfold lcK
    split
    · show List.Sublist (_ :: _) _
      rw [hf]; exact (lcK_sub hf xs _).cons_cons x
    · exact (lcK_sub hf xs _).cons x
end
end Z
set_option Elab.async false
set_option linter.all false
set_option maxRecDepth 100000
set_option maxHeartbeats 1000000
namespace Z
open PySem PySem.Spec PyProof.Rows L2
section
variable {X : Cx} {e a b : Expr} {σ : L2.St} {F F1 W W1 W2 : Hp} {q : Bool} {pos p : Pos} {C : Addr} {fds : List (Str × D)} {rel : Rel} {k : Nat} {ps : List Str}
theorem ev_notO (h : EvS X e σ F W (.ob C fds) W1) (Me : MeD X.prog X.w X.K X.mg X.base k C "__bool__" ps rel) (hr : Room k X.A) (hrel : ∀ F1, Same F F1 → rel [.ob C fds] F1 W1 (.bl q) W2) : EvS X (.UnaryOp .Not e pos) σ F W (.bl (!q)) W2 := fun H w Q qq pins s I =>
  UnaryOp_ (thn (h H w _ (fun v F1 H1 g r => (⟨F1, g, r⟩ : ∃ F1, Go F W H F1 W1 H1 ∧ Rep F1 v (.ob C fds))) pins s I) fun v s1 ⟨x, H1, I1, r1, F1, g, r⟩ => by
    obtain ⟨y, dx, vs, e1, h1, rf⟩ := id r.ob_inv
    subst e1
    cases r1
    exact not_of (run_bool (Q := fun c s' => EP X pins σ Q (.bool (!c)) s') Me hr rfl (hrel F1 g.ex) I1 g.st r fun F' H' s' g' I' => ⟨.bl (!q), H', I', rfl, qq _ F' H' (g.trans g') (.bl _)⟩))
end
theorem tuple_mul1 (l : Addr) (items : Array Value) (n : Nat) (dd : Option Addr) (sl : Array (Option Value)) (u : Tok) :
    Meets (Builtin.«tuple.__mul__» ⟨[.ref l, .int 1 u], []⟩) (fun _ R s => s.heap.get? l = some { cls := .type "tuple", dict := dd, data := .seq items n, slots := sl } ∧ R (.ok (.ret (Value.ref l))) s) :=
  .of_wp fun prog w A R s h => by
    obtain ⟨hp, g, d, tk, os⟩ := s
    obtain ⟨hl, h⟩ := h
    have f1 := AutoSeq1.idx_int
    have c1 : (items.isEmpty || (1 : Int) == 1) = true := by rw [Bool.or_eq_true_iff]; exact .inr rfl
    wp_walk using wpAny_loadPart' hl
    repeat (first
      | (refine wpAny_ite_true (decide_eq_true (by rw [c1])) ?_; wp_walk using wpAny_loadPart' hl))
    all_goals first | exact ⟨_, rfl, h⟩ | skip
section
variable {X : Cx} {e a b : Expr} {σ : L2.St} {F F1 W W1 W2 : Hp} {q : Bool} {pos p : Pos}
theorem op_rep1 : OpR X (binaryOp .Mult) (fun x y H Q => ∃ l xs, x = .ref l ∧ y = .int 1 ∧ SqT X.K H l xs ∧ Q (.ref l) H) := by
  intro pins s σ H x y v u Q I rx ry h
  obtain ⟨l, xs, rfl, rfl, hT, q⟩ := h
  cases rx
  obtain ⟨t, rfl⟩ := ry
  obtain ⟨its, r, ⟨⟨cls, dd, data, sl⟩, ho, hc, n, hd⟩, hs⟩ := I.tuple hT
  simp only at hc hd
  subst hc hd
  exact wpAny_binaryOp_repeat_ref (T := "tuple") (U := "int") (by decide) ⟨_, ho, rfl⟩ (fun s' => typeIs_int s' 1 t) noFill_tuple_mul F.fills_int_mul F.slot_int_rmul repeat_tuple F.slot_int_index.lookup
    (call_meets F.slot_int_rmul (typeIs_int s 1 t) F.entry_int_rmul (F.args_int_rmul_2 _ _) (int_rmul_tuple 1 t l its.toArray n dd sl)
      ⟨ho, rfl, ⟨_, ho, rfl⟩, call_meets F.slot_tuple_mul ⟨_, ho, rfl⟩ F.entry_tuple_mul (F.args_tuple_mul_2 _ _) (tuple_mul1 l its.toArray n dd sl t) ⟨ho, ⟨.ref l, H, I, rfl, q⟩⟩⟩)
theorem ev_repT {α : Type} {f : α → D} {xs : List α} {m : Int} (ha : EvS X a σ F W (eR true f xs) W1) (hb : EvS X b σ F W1 (.int m) W2) (hm : 1 ≤ m) (hk : m ≤ 1000) (hz : xs.length * m.toNat ≤ 100000) (hz2 : xs.length ≤ 1000) (hne : xs ≠ []) : EvS X (.BinOp a .Mult b pos) σ F W (eR true f (List.replicate m.toNat xs).flatten) W2 := by
  by_cases h1 : m = 1
  · subst h1
    have e : (List.replicate (1 : Int).toNat xs).flatten = xs := by simp
    rw [e]
    refine ev_op op_rep1 ha hb fun v1 v2 F1 H1 _ r1 r2 w Q q => ?_
    obtain ⟨l, vs, rfl, h1, s1, z1⟩ := id r1.tup_inv
    cases r2
    exact ⟨l, vs, rfl, rfl, sqo_of (t := true) w h1, q _ F1 H1 (Go.refl w) r1⟩
  · refine ev_op op_repT ha hb fun v1 v2 F1 H1 _ r1 r2 w Q q => ?_
    obtain ⟨l, vs, rfl, h1, s1, z1⟩ := id r1.tup_inv
    cases r2
    have hl := s1.length
    rw [List.length_map] at hl
    refine ⟨l, m, vs, rfl, rfl, sqo_of (t := true) w h1, ?_, by omega, hk, by omega, fun p hp => ?_⟩
    · intro e; rw [e] at hl; exact hne (List.eq_nil_of_length_eq_zero hl.symm)
    · have rr := s1.rep m.toNat
      have e : (List.replicate m.toNat (xs.map f)).flatten = (List.replicate m.toNat xs).flatten.map f := by rw [List.map_flatten, List.map_replicate]
      rw [e] at rr
      exact q _ _ _ (Go.new w hp) (Go.rep_new (t := true) w hp rr (by rw [List.length_map, List.length_flatten, List.map_replicate, List.sum_replicate_nat]; rw [Nat.mul_comm]; exact hz))
end
end Z
set_option Elab.async false
set_option linter.all false
set_option maxRecDepth 100000
set_option maxHeartbeats 3000000
namespace Z
open PySem PySem.Spec PyProof.Rows L2
/-- a set just made -/
abbrev nS (w : World) : Obj := ⟨.type "set", none, .set #[] 0 (.fresh 0 0 (!w.params.followText "set-order")), #[]⟩
section
variable {P : Program} {w : World} {A : Around} {E : Value → Shared → Prop} {s : Shared}
/-- set(l) of a list of ints -/
theorem call_setL {l : Addr} {its : Array Value} (ns : List Int) {Q : Value → Shared → Prop} (hh : A.handled = none) (hl : s.heap.IsList l its) (hit : IntsAre its.toList ns) (hb : ns.length + 1 < scanBound)
    (k : ∀ (h' : Heap) (tk c : Nat), SetR w h' s.heap.objs.size (fun j => decide (j ∈ ns)) c → c ≤ ns.length → (∀ b o, s.heap.get? b = some o → h'.get? b = some o) → Q (.ref s.heap.objs.size) { s with heap := h', toks := tk }) :
    wpAny (model P w) A (call (.type "set") [.ref l]) Q E s := by
  have hz : its.size = ns.length := by have q := hit.length; rwa [Array.length_toList] at q
  obtain ⟨c0, tl0, mro0⟩ := F.called_set.mro
  have made0 := F.called_set.made
  have sub0 := F.called_set.sub
  refine wpAny_call (codeAny_of_tree ?_)
  show wpAny _ _ (callAny (.type "set") _) _ _ _
  refine wpAny_pure ⟨Code.quiet_builtin _ (by decide +kernel), codeAny_builtin F.entry_type_call ?_⟩
  rw [Around.under_plain (weight_type_call_type "set" [.ref l] []) rfl]
  have nt0 := F.called_set.notType
  have cc0 := F.called_set.canCreate
  have tc0 := F.typeCall_set_1 (.ref l)
  repeat (any_goals (first | assumption | wp_step))
  refine codeAny_mono (code_set_led1 (.ref l) (E := E) (Q₁ := fun obj s₁ => obj = .ref s.heap.objs.size ∧ s₁ = { s with heap := s.heap.push (nS w) }) ⟨rfl, rfl⟩) fun r s₁ hr => ?_
  rcases r with e | fl
  · exact hr
  cases fl with
  | ret obj =>
    obtain ⟨rfl, rfl⟩ := hr
    have hS : (s.heap.push (nS w)).get? s.heap.objs.size = some (nS w) := Heap.get?_push_size _ rfl
    have hT : Shared.TypeIs { s with heap := s.heap.push (nS w) } (.ref s.heap.objs.size) "set" := ⟨_, hS, rfl⟩
    have il0 := F.called_set.init.lookup
    have ib0 := F.called_set.init.bind (.ref s.heap.objs.size)
    repeat (any_goals (first | assumption | wp_step))
    refine codeAny_mono (codeAny_call_builtin (R := wants (fun r s₂ => r = .none ∧ ∃ h' tk c, s₂ = { s with heap := h', toks := tk } ∧ SetR w h' s.heap.objs.size (fun j => decide (j ∈ ns)) c ∧ c ≤ ns.length ∧ (∀ b o, s.heap.get? b = some o → h'.get? b = some o)) E) F.called_set.init.plain F.entry_set_init (check_set_init_1 hT ?_)) fun r₂ s₂ hr₂ => ?_
    · obtain ⟨⟨ocls, odict, odata, oslots⟩, ho, hcl, nl, hdl⟩ := hl
      dsimp only at hcl hdl
      subst hcl hdl
      have ho' : (s.heap.push (nS w)).get? l = some ⟨.type "list", odict, .seq its nl, oslots⟩ := Heap.get?_push_of_some _ ho
      have sl1 := F.sub_list_set
      have sl2 := F.sub_list_frozenset
      have ne1 : (Value.type "list" == Value.type "dict") = false := by decide
      have il : (s.heap.push (nS w)).IsList l its := ⟨_, ho', rfl, nl, rfl⟩
      unfold Builtin.«set.__init__» noKeywords Builtin.Frozenset.updateFrom
      generalize hPI : pyIter = PI
      wp_walk
      subst hPI
      refine wpAny_pyIter_list il (wpAny_bind (wpAny_runValue ?_))
      have lS : l < s.heap.objs.size := Heap.lt_size ho
      have h3 : A.in1.in1.in1.handled = none := by simp [hh]
      have sz : (s.heap.push (nS w)).objs.size = s.heap.objs.size + 1 := Heap.size_push ..
      have nI : l ≠ (s.heap.push (nS w)).objs.size := Nat.ne_of_lt (by rw [sz]; exact Nat.lt_succ_of_lt lS)
      have nF : s.heap.objs.size ∉ [(s.heap.push (nS w)).objs.size, l] := by
        simp only [List.mem_cons, List.not_mem_nil, or_false, not_or, sz]
        exact ⟨Nat.ne_of_lt (Nat.lt_succ_self _), Nat.ne_of_gt lS⟩
      have val : ∀ (i : Nat) (v : Value), its[i]? = some v → ∃ k t, ns[i]? = some k ∧ v = .int k t := fun i v hv => by
        have hi : i < ns.length := hz ▸ (Array.getElem?_eq_some_iff.mp hv).1
        obtain ⟨t, e⟩ := PyProof.Rows.IntsAre.int_at hit i v (by rw [Array.getElem?_toList]; exact hv)
        exact ⟨ns[i], t, List.getElem?_eq_getElem hi, by rw [e, List.getD_eq_getElem?_getD, List.getElem?_eq_getElem hi]; rfl⟩
      refine set_update_ints ((Walks.list h3 _ l nI its).toS) s.heap.objs.size nF ns hz hb val (its.size - 0) 0 _ (by omega) (Nat.zero_le _) ⟨⟨_, Heap.get?_push_size _ rfl, rfl, rfl⟩, (il.push _)⟩ ?a1 ?a2
      case a1 => exact ⟨0, Nat.le_refl 0, setR_new_at (Heap.get?_push_of_some _ hS)⟩
      case a2 =>
        intro s' c' hm hc' hS'
        obtain ⟨h', g2, d', tk', os'⟩ := s'
        obtain rfl : g2 = s.gens := hm.gens
        obtain rfl : d' = s.drawn := hm.drawn
        obtain rfl : os' = s.os := hm.os
        show wpAny _ _ _ _ _ _
        refine wpAny_pure ?_
        show wpAny _ _ (ret Value.none) _ _ _
        refine wpAny_pure ⟨rfl, h', tk', c', rfl, hS', hz ▸ hc', fun b o e => ?_⟩
        have b0 : b < s.heap.objs.size := Heap.lt_size e
        refine hm.heap b o ?_ (Heap.get?_push_of_some _ (Heap.get?_push_of_some _ e))
        simp only [List.mem_cons, List.not_mem_nil, or_false, not_or, sz]
        exact ⟨Nat.ne_of_lt b0, Nat.ne_of_lt (Nat.lt_succ_of_lt b0)⟩
    · rcases r₂ with e | fl₂
      · exact hr₂
      cases fl₂ with
      | ret r =>
        obtain ⟨rfl, h', tk, c', rfl, hS', hc', hk'⟩ := hr₂
        repeat (any_goals (first | assumption | wp_step))
        exact k _ _ _ hS' hc' hk'
      | _ => exact hr₂.elim
  | _ => exact hr.elim
end
/-- each once -/
def ded : List Int → List Int
  | [] => []
  | x :: xs => if x ∈ xs then ded xs else x :: ded xs
theorem mem_ded {y : Int} : ∀ {xs : List Int}, y ∈ ded xs ↔ y ∈ xs
  | [] => Iff.rfl
  | x :: xs => by
    unfold ded
    split
    · rename_i h
      rw [mem_ded, List.mem_cons]
      exact ⟨.inr, fun q => q.elim (fun e => e ▸ h) id⟩
    · rw [List.mem_cons, List.mem_cons, mem_ded]
theorem ded_nd : ∀ xs : List Int, (ded xs).Nodup
  | [] => List.nodup_nil
  | x :: xs => by
    unfold ded
    split
    · exact ded_nd xs
    · rename_i h
      exact List.nodup_cons.mpr ⟨fun q => h (mem_ded.mp q), ded_nd xs⟩
theorem ded_len : ∀ xs : List Int, (ded xs).length ≤ xs.length
  | [] => Nat.le_refl _
  | x :: xs => by
    unfold ded
    have := ded_len xs
    split <;> simp only [List.length_cons] <;> omega
/-- sorted(set(..)) -/
def sset (ns : List Int) : List Int := sortI (ded ns)
theorem asc_eq : ∀ {l m : List Int}, l.Pairwise (· < ·) → m.Pairwise (· < ·) → (∀ k, k ∈ l ↔ k ∈ m) → l = m
  | [], [], _, _, _ => rfl
  | [], y :: m, _, _, h => absurd ((h y).mpr List.mem_cons_self) (by simp)
  | x :: l, [], _, _, h => absurd ((h x).mp List.mem_cons_self) (by simp)
  | x :: l, y :: m, hl, hm, h => by
    obtain ⟨l1, l2⟩ := List.pairwise_cons.mp hl
    obtain ⟨m1, m2⟩ := List.pairwise_cons.mp hm
    have e : x = y := by
      rcases List.mem_cons.mp ((h x).mp List.mem_cons_self) with e | e
      · exact e
      rcases List.mem_cons.mp ((h y).mpr List.mem_cons_self) with e2 | e2
      · exact e2.symm
      have a := m1 x e
      have b := l1 y e2
      omega
    subst e
    rw [asc_eq l2 m2 fun k => ?_]
    constructor
    · intro q
      rcases List.mem_cons.mp ((h k).mp (List.mem_cons_of_mem _ q)) with e | e
      · have := l1 k q; omega
      · exact e
    · intro q
      rcases List.mem_cons.mp ((h k).mpr (List.mem_cons_of_mem _ q)) with e | e
      · have := m1 k q; omega
      · exact e
end Z
set_option Elab.async false
set_option linter.all false
set_option maxRecDepth 100000
set_option maxHeartbeats 1000000
namespace Z
open PySem PySem.Spec PyProof.Rows L2
theorem sortI_le (ns : List Int) : (sortI ns).Pairwise (· ≤ ·) := by
  have h := List.pairwise_mergeSort (le := fun x y : Int => decide (x ≤ y)) (fun a b c h1 h2 => by simp at *; omega) (fun a b => by simp; omega) ns
  exact h.imp fun q => of_decide_eq_true q
theorem asc_sset (ns : List Int) : (sset ns).Pairwise (· < ·) := L2.lt_of_le_nodup _ (sortI_le _) ((sortI_perm _).nodup_iff.mpr (ded_nd ns))
theorem mem_sset {ns : List Int} {k : Int} : k ∈ sset ns ↔ k ∈ ns := by unfold sset; rw [sortI_mem, mem_ded]
theorem sset_len (ns : List Int) : (sset ns).length ≤ ns.length := by unfold sset; rw [sortI_len]; exact ded_len ns
section
variable {X : Cx} {a : Expr} {σ : L2.St} {F W W1 : Hp} {pos p p2 : Pos}
def rSetL (K : PySem.W.Frag) (w : World) : List V → Hp → VK → Prop := fun xs H Q => ∃ (l : Addr) (ns : List Int), xs = [.ref l] ∧ SqL K H l (ns.map V.int) ∧ ns.length + 1 < scanBound ∧ ∀ p c, c ≤ ns.length → H p = none → Q (.ref p) (upd H p (SetO w p (fun j => decide (j ∈ ns)) c))
theorem cr_setL (hc : X.calm = true) : CallR X (.type "set") (rSetL X.K X.w) := by
  intro pins s σ H xs us Q I r h
  obtain ⟨l, ns, rfl, hl, hz, q⟩ := h
  rw [Vals.ref1 r]
  obtain ⟨its, rv, pl, hz2⟩ := I.list hl
  refine call_setL ns (I.ok.hd hc) pl.isList (by simpa using RZ.intsAre_vals rv) hz fun h' tk c hS hcl hk => ?_
  exact ⟨.ref _, _, I.laid (t' := tk) hk (Nat.le_refl _) (setO_new hS), rfl, q _ c hcl (I.hok.fresh (Nat.le_refl _))⟩
theorem ev_sortset {ns : List Int} {q' : Pos} (hm : X.mg "sorted" = none) (hm2 : X.mg "set" = none) (h : EvS X a σ F W (eR false D.int ns) W1) (hz : ns.length < 64) (hg : Gl X "sorted" := by rfl) (hg2 : Gl X "set" := by rfl) (hc : X.calm = true := by rfl)
    (na : starEach [a] X.env = (false, eval a X.env) :: starEach [] X.env := by rfl) (na2 : starEach [.Call (.Name "set" p2) [a] [] q'] X.env = (false, eval (.Call (.Name "set" p2) [a] [] q') X.env) :: starEach [] X.env := by rfl) :
    EvS X (.Call (.Name "sorted" p) [.Call (.Name "set" p2) [a] [] q'] [] pos) σ F W (eR false D.int (sset ns)) W1 := fun H w Q q =>
  tm_of (pe_callB (cr_sortedSet hc) hg hm (by decide +kernel) (pa_cons (pe_callTy (cr_setL hc) hg2 hm2 (by decide +kernel) (pa_cons pe_tm pa_nil na) (by decide) (by decide) na rfl) pa_nil na2) (by decide) (by decide) na2 rfl)
    (h H w _ fun v F1 H1 g r => by
    obtain ⟨l, rfl, h1, z⟩ := rep_ints r
    refine ⟨l, ns, rfl, SqL.of (g.st.lst h1), by unfold scanBound; omega, fun p1 c hc1 hp => ?_⟩
    have g1 := g.trans (Go.new (o := SetO X.w p1 (fun j => decide (j ∈ ns)) c) g.st hp)
    refine ⟨p1, _, c, rfl, upd_same, by omega, fun ns' p3 asc hmem hl hp3 => ?_⟩
    have e : ns' = sset ns := asc_eq asc (asc_sset ns) fun k => by rw [hmem, mem_sset]; simp
    subst e
    exact q _ _ _ (g1.trans (Go.new g1.st hp3)) (.sq (t := false) upd_same (Reps.of_ints _) (by rw [List.length_map]; have := sset_len ns; omega)))
end
end Z
set_option Elab.async false
set_option linter.all false
set_option maxRecDepth 100000
set_option maxHeartbeats 1000000
namespace Z
open PySem PySem.Spec PyProof.Rows L2
/-! ## tables -/
section
variable {κ α β : Type} [DecidableEq κ]
def tGet : List (κ × α) → κ → Option α
  | [], _ => none
  | p :: r, k => if p.1 = k then some p.2 else tGet r k
def tSet : List (κ × α) → κ → α → List (κ × α)
  | [], _, _ => []
  | p :: r, k, v => (if p.1 = k then (p.1, v) else p) :: tSet r k v
def tPut (t : List (κ × α)) (k : κ) (v : α) : List (κ × α) := if (tGet t k).isSome = true then tSet t k v else t ++ [(k, v)]
def tOf (t : List (κ × α)) : List (κ × α) := t.foldl (fun acc p => tPut acc p.1 p.2) []
theorem tGet_set (t : List (κ × α)) (k j : κ) (v : α) : tGet (tSet t k v) j = if j = k then (tGet t j).map fun _ => v else tGet t j := by
  induction t with
  | nil => simp [tGet, tSet]
  | cons p r ih =>
    unfold tSet tGet
    by_cases h1 : p.1 = k
    · rw [if_pos h1]
      by_cases h2 : j = k
      · rw [if_pos (show (p.1, v).1 = j by rw [h1, h2]), if_pos h2, if_pos (by rw [h1, h2])]; rfl
      · rw [if_neg h2, if_neg (show ¬ (p.1, v).1 = j by rw [h1]; exact fun e => h2 e.symm), if_neg (by rw [h1]; exact fun e => h2 e.symm), ih, if_neg h2]
    · rw [if_neg h1]
      by_cases h3 : p.1 = j
      · rw [if_pos h3, if_neg (fun e => h1 (h3.trans e)), if_pos h3]
      · rw [if_neg h3, if_neg h3, ih]
theorem tGet_snoc (t : List (κ × α)) (k j : κ) (v : α) : tGet (t ++ [(k, v)]) j = (tGet t j).or (if k = j then some v else none) := by
  induction t with
  | nil => simp [tGet]
  | cons p r ih =>
    rw [List.cons_append]
    unfold tGet
    split
    · rfl
    · exact ih
theorem tGet_put (t : List (κ × α)) (k j : κ) (v : α) : tGet (tPut t k v) j = if j = k then some v else tGet t j := by
  unfold tPut
  split
  · rename_i h
    rw [tGet_set]
    split
    · rename_i e; subst e
      obtain ⟨x, hx⟩ := Option.isSome_iff_exists.mp h
      rw [hx]; rfl
    · rfl
  · rename_i h
    rw [tGet_snoc]
    have h' : tGet t k = none := by cases e : tGet t k with
      | none => rfl
      | some x => rw [e] at h; simp at h
    by_cases e : j = k
    · subst e; rw [h']; simp
    · rw [if_neg e, if_neg (fun q => e q.symm), Option.or_none]
theorem tSet_len (t : List (κ × α)) (k : κ) (v : α) : (tSet t k v).length = t.length := by
  induction t with
  | nil => rfl
  | cons p r ih => simp only [tSet, List.length_cons, ih]
theorem tPut_len (t : List (κ × α)) (k : κ) (v : α) : (tPut t k v).length ≤ t.length + 1 := by
  unfold tPut
  split
  · rw [tSet_len]; omega
  · rw [List.length_append]; exact Nat.le_refl _
end
/-- what a key is, as the model's tables have it and as data -/
structure KEn {κ : Type} (kf : κ → Key) (kd : κ → D) : Prop where
  inj : ∀ a b, kf a = kf b → a = b
  rep : ∀ (F : Hp) (v : V) (k : κ), Rep F v (kd k) → v = kV (kf k)
  of : ∀ (F : Hp) (k : κ), Rep F (kV (kf k)) (kd k)
theorem keI : KEn (κ := Int) Sum.inl D.int := ⟨fun _ _ h => Sum.inl.inj h, fun _ _ _ r => by cases r; rfl, fun _ k => .int k⟩
theorem keS : KEn (κ := Str) Sum.inr D.str := ⟨fun _ _ h => Sum.inr.inj h, fun _ _ _ r => by cases r; rfl, fun _ k => .str k⟩
/-- a table as a dict -/
def eTm {κ α : Type} (kf : κ → Key) (g : α → D) (t : List (κ × α)) : List (Key × D) := t.map fun p => (kf p.1, g p.2)
def eT {κ α : Type} (kf : κ → Key) (g : α → D) (t : List (κ × α)) : D := .dk (eTm kf g t)
section
variable {κ α : Type} [DecidableEq κ] {kf : κ → Key} {kd : κ → D} {g : α → D}
theorem eTm_get (hi : ∀ a b, kf a = kf b → a = b) (t : List (κ × α)) (k : κ) : tGet (eTm kf g t) (kf k) = (tGet t k).map g := by
  induction t with
  | nil => rfl
  | cons p r ih =>
    show tGet ((kf p.1, g p.2) :: eTm kf g r) (kf k) = _
    unfold tGet
    by_cases h : p.1 = k
    · rw [if_pos (show (kf p.1, g p.2).1 = kf k by rw [h]), if_pos h]; rfl
    · rw [if_neg (fun e => h (hi _ _ e)), if_neg h, ih]
theorem eTm_set (hi : ∀ a b, kf a = kf b → a = b) (t : List (κ × α)) (k : κ) (v : α) : tSet (eTm kf g t) (kf k) (g v) = eTm kf g (tSet t k v) := by
  induction t with
  | nil => rfl
  | cons p r ih =>
    show tSet ((kf p.1, g p.2) :: eTm kf g r) (kf k) (g v) = eTm kf g ((if p.1 = k then (p.1, v) else p) :: tSet r k v)
    rw [show tSet ((kf p.1, g p.2) :: eTm kf g r) (kf k) (g v) = (if kf p.1 = kf k then (kf p.1, g v) else (kf p.1, g p.2)) :: tSet (eTm kf g r) (kf k) (g v) from rfl, ih]
    by_cases h : p.1 = k
    · rw [if_pos (by rw [h]), if_pos h]; rfl
    · rw [if_neg (fun e => h (hi _ _ e)), if_neg h]; rfl
theorem eTm_put (hi : ∀ a b, kf a = kf b → a = b) (t : List (κ × α)) (k : κ) (v : α) : tPut (eTm kf g t) (kf k) (g v) = eTm kf g (tPut t k v) := by
  unfold tPut
  rw [eTm_get hi, eTm_set hi, Option.isSome_map]
  split
  · rfl
  · unfold eTm; rw [List.map_append]; rfl
theorem eTm_len (t : List (κ × α)) : (eTm kf g t).length = t.length := List.length_map ..
end
section
variable {F : Hp}
theorem valV_t : ∀ {vs : List (Key × V)} (k : Key), valV vs k = tGet vs k
  | [], k => rfl
  | p :: r, k => by
    unfold tGet
    by_cases h : p.1 = k
    · rw [if_pos h, valV_pos h]
    · rw [if_neg h, valV_neg h, valV_t]
theorem putK_t (vs : List (Key × V)) (k : Key) (v : V) : putK vs k v = tPut vs k v := by
  unfold putK tPut
  rw [valV_any, valV_t]
  have e : ∀ l : List (Key × V), (l.map fun kv => if kv.1 = k then (kv.1, v) else kv) = tSet l k v := fun l => by
    induction l with
    | nil => rfl
    | cons p r ih => rw [List.map_cons, ih]; rfl
  rw [e]
theorem RepK.get {k : Key} : ∀ {vs : List (Key × V)} {ds : List (Key × D)}, RepK F vs ds → (tGet vs k = none ∧ tGet ds k = none) ∨ ∃ v d, tGet vs k = some v ∧ tGet ds k = some d ∧ Rep F v d
  | _, _, .nil => .inl ⟨rfl, rfl⟩
  | _, _, .cons (k := j) (v := v) (d := d) r t => by
    unfold tGet
    by_cases h : j = k
    · rw [if_pos h, if_pos h]; exact .inr ⟨v, d, rfl, rfl, r⟩
    · rw [if_neg h, if_neg h]; exact t.get
theorem RepK.set {k : Key} {v : V} {d : D} (q : Rep F v d) : ∀ {vs : List (Key × V)} {ds : List (Key × D)}, RepK F vs ds → RepK F (tSet vs k v) (tSet ds k d)
  | _, _, .nil => .nil
  | _, _, .cons (k := j) r t => by
    unfold tSet
    by_cases h : j = k
    · rw [if_pos h, if_pos h]; exact .cons q (t.set q)
    · rw [if_neg h, if_neg h]; exact .cons r (t.set q)
theorem RepK.append : ∀ {vs us : List (Key × V)} {ds es : List (Key × D)}, RepK F vs ds → RepK F us es → RepK F (vs ++ us) (ds ++ es)
  | _, _, _, _, .nil, s => s
  | _, _, _, _, .cons r t, s => .cons r (t.append s)
theorem RepK.put {k : Key} {v : V} {d : D} {vs : List (Key × V)} {ds : List (Key × D)} (h : RepK F vs ds) (q : Rep F v d) : RepK F (tPut vs k v) (tPut ds k d) := by
  unfold tPut
  rcases h.get (k := k) with ⟨e1, e2⟩ | ⟨v0, d0, e1, e2, _⟩
  · rw [e1, e2]; exact h.append (.cons q .nil)
  · rw [e1, e2]; exact h.set q
theorem RepK.len : ∀ {vs : List (Key × V)} {ds : List (Key × D)}, RepK F vs ds → vs.length = ds.length
  | _, _, .nil => rfl
  | _, _, .cons _ t => congrArg (· + 1) t.len
theorem Rep.dk_inv {v : V} {ds : List (Key × D)} (r : Rep F v (.dk ds)) : ∃ a vs, v = .ref a ∧ Rd F a (.dK vs) ∧ RepK F vs ds ∧ ds.length ≤ 100000 := by
  cases r with
  | dk h r z => exact ⟨_, _, rfl, h, r, z⟩
end
section
variable {X : Cx} {e o a b c i f tg iter : Expr} {es : List Expr} {σ : L2.St} {F F1 W W1 W2 W3 : Hp} {d d1 d2 : D} {pos p apos tpos : Pos} {n : Nat}
variable {κ α : Type} [DecidableEq κ] {kf : κ → Key} {kd : κ → D} {g : α → D} {t : List (κ × α)} {k : κ} {x y : α}
theorem room_u (hr : Room n X.A) : X.A.units + 1 < cLine := by have := hr.un; omega
theorem dget_of {H : Hp} {v vy : V} (ke : KEn kf kd) (w : Wd F W H) (r : Rep F v (eT kf g t)) (ry : Rep F vy (kd k)) : ∃ a, v = .ref a ∧ IsD H a ∧ ((tGet t k = none ∧ DGet H a vy none) ∨ ∃ x u, tGet t k = some x ∧ DGet H a vy (some u) ∧ Rep F u (g x)) := by
  obtain ⟨a, vs, rfl, h1, s1, z⟩ := Rep.dk_inv r
  have hk := ke.rep F vy k ry
  refine ⟨a, rfl, .inl ⟨vs, w.rdK h1⟩, ?_⟩
  rcases s1.get (k := kf k) with ⟨e1, e2⟩ | ⟨v0, d0, e1, e2, q⟩
  · rw [eTm_get ke.inj, Option.map_eq_none_iff] at e2
    exact .inl ⟨e2, .inl ⟨vs, kf k, w.rdK h1, hk, by rw [valV_t, e1]⟩⟩
  · rw [eTm_get ke.inj, Option.map_eq_some_iff] at e2
    obtain ⟨x, hx, rfl⟩ := e2
    exact .inr ⟨x, v0, hx, .inl ⟨vs, kf k, w.rdK h1, hk, by rw [valV_t, e1]⟩, q⟩
/-- d[k] -/
theorem ev_tsub (ke : KEn kf kd) (hr : Room n X.A) (ha : EvS X o σ F W (eT kf g t) W1) (hb : EvS X i σ F W1 (kd k) W2) (hx : tGet t k = some x) (hs : NoSl i := by intro _ _; rfl) : EvS X (.Subscript o i pos) σ F W (g x) W2 := fun H w Q q =>
  tm_of (pe_dget (room_u hr) pe_tm pe_tm hs) (ha H w _ fun v1 F1 H1 g1 r1 => (hb.mono g1.ex).then g1 fun v2 F2 H2 g2 g02 r2 => by
    obtain ⟨a, rfl, _, h⟩ := dget_of ke g02.st (r1.mono g2.ex) r2
    rcases h with ⟨h, _⟩ | ⟨x', u, h, hg, ru⟩
    · rw [hx] at h; cases h
    · rw [hx] at h; cases h
      exact ⟨a, u, rfl, hg, q u F2 H2 g02 ru⟩)
/-- k in d -/
theorem ev_tin (ke : KEn kf kd) (hr : Room n X.A) (hb : EvS X a σ F W (kd k) W1) (ho : EvS X o σ F W1 (eT kf g t) W2) (hm : behindInMarks .In o = false := by first | exact nomark _ | rfl) : EvS X (.Compare a [.In] [o] pos) σ F W (.bl (tGet t k).isSome) W2 := fun H w Q q =>
  tm_of (pe_cmp (pc_din (room_u hr) pe_tm pe_tm) hm) (hb H w _ fun v1 F1 H1 g1 r1 => (ho.mono g1.ex).then g1 fun v2 F2 H2 g2 g02 r2 => by
    obtain ⟨a, rfl, _, h⟩ := dget_of ke g02.st r2 (r1.mono g2.ex)
    rcases h with ⟨h, hg⟩ | ⟨x', u, h, hg, ru⟩
    · exact ⟨a, none, rfl, hg, by rw [h] at q; exact q _ F2 H2 g02 (.bl _)⟩
    · exact ⟨a, some u, rfl, hg, by rw [h] at q; exact q _ F2 H2 g02 (.bl _)⟩)
theorem ev_tni (ke : KEn kf kd) (hr : Room n X.A) (hb : EvS X a σ F W (kd k) W1) (ho : EvS X o σ F W1 (eT kf g t) W2) (hm : behindInMarks .NotIn o = false := by first | exact nomark _ | rfl) : EvS X (.Compare a [.NotIn] [o] pos) σ F W (.bl (!(tGet t k).isSome)) W2 := fun H w Q q =>
  tm_of (pe_cmp (pc_dnotin (room_u hr) pe_tm pe_tm) hm) (hb H w _ fun v1 F1 H1 g1 r1 => (ho.mono g1.ex).then g1 fun v2 F2 H2 g2 g02 r2 => by
    obtain ⟨a, rfl, _, h⟩ := dget_of ke g02.st r2 (r1.mono g2.ex)
    rcases h with ⟨h, hg⟩ | ⟨x', u, h, hg, ru⟩
    · exact ⟨a, none, rfl, hg, by rw [h] at q; exact q _ F2 H2 g02 (.bl _)⟩
    · exact ⟨a, some u, rfl, hg, by rw [h] at q; exact q _ F2 H2 g02 (.bl _)⟩)
theorem et_tin (ke : KEn kf kd) (hr : Room n X.A) (hb : EvS X a σ F W (kd k) W1) (ho : EvS X o σ F W1 (eT kf g t) W2) (hm : behindInMarks .In o = false := by first | exact nomark _ | rfl) : EvT X (.Compare a [.In] [o] pos) σ F W (tGet t k).isSome W2 := fun H w Q q =>
  tmT_of (pt_cmp (pc_din (room_u hr) pe_tm pe_tm) hm) (hb H w _ fun v1 F1 H1 g1 r1 => (ho.mono g1.ex).then g1 fun v2 F2 H2 g2 g02 r2 => by
    obtain ⟨a, rfl, _, h⟩ := dget_of ke g02.st r2 (r1.mono g2.ex)
    rcases h with ⟨h, hg⟩ | ⟨x', u, h, hg, ru⟩
    · exact ⟨a, none, rfl, hg, _, rfl, by rw [h] at q; exact q F2 H2 g02⟩
    · exact ⟨a, some u, rfl, hg, _, rfl, by rw [h] at q; exact q F2 H2 g02⟩)
theorem et_tni (ke : KEn kf kd) (hr : Room n X.A) (hb : EvS X a σ F W (kd k) W1) (ho : EvS X o σ F W1 (eT kf g t) W2) (hm : behindInMarks .NotIn o = false := by first | exact nomark _ | rfl) : EvT X (.Compare a [.NotIn] [o] pos) σ F W (!(tGet t k).isSome) W2 := fun H w Q q =>
  tmT_of (pt_cmp (pc_dnotin (room_u hr) pe_tm pe_tm) hm) (hb H w _ fun v1 F1 H1 g1 r1 => (ho.mono g1.ex).then g1 fun v2 F2 H2 g2 g02 r2 => by
    obtain ⟨a, rfl, _, h⟩ := dget_of ke g02.st r2 (r1.mono g2.ex)
    rcases h with ⟨h, hg⟩ | ⟨x', u, h, hg, ru⟩
    · exact ⟨a, none, rfl, hg, _, rfl, by rw [h] at q; exact q F2 H2 g02⟩
    · exact ⟨a, some u, rfl, hg, _, rfl, by rw [h] at q; exact q F2 H2 g02⟩)
/-- d.get(k, x) -/
theorem ev_tget (ke : KEn kf kd) (hr : Room n X.A) (ha : EvS X o σ F W (eT kf g t) W1) (hb : EvS X e σ F W1 (kd k) W2) (hf : EvS X f σ F W2 (g y) W3) (m : M2 X o "get" apos e f pos := by exact ⟨rfl, rfl, rfl, rfl⟩) : EvS X (.Call (.Attribute o "get" apos) [e, f] [] pos) σ F W (g ((tGet t k).getD y)) W3 := fun H w Q q =>
  tm_of (pe_dget2 (room_u hr) pe_tm pe_tm pe_tm m) (ha H w _ fun v1 F1 H1 g1 r1 => by
    obtain ⟨a, vs, rfl, h1, s1, z⟩ := id (Rep.dk_inv r1)
    refine ⟨a, rfl, .inl ⟨vs, g1.st.rdK h1⟩, (hb.mono g1.ex).then g1 fun v2 F2 H2 g2 g02 r2 => (hf.mono g02.ex).then g02 fun v3 F3 H3 g3 g03 r3 => ?_⟩
    obtain ⟨a', e', _, h⟩ := dget_of ke g03.st ((r1.mono g2.ex).mono g3.ex) (r2.mono g3.ex)
    cases e'
    rcases h with ⟨h, hg⟩ | ⟨x', u, h, hg, ru⟩
    · exact ⟨none, hg, q v3 F3 H3 g03 (by rw [h]; exact r3)⟩
    · exact ⟨some u, hg, q u F3 H3 g03 (by rw [h]; exact ru)⟩)
/-! ### an owned dict -/
theorem ev_tgetW {l : Addr} {vs : List (Key × V)} (ke : KEn kf kd) (hr : Room n X.A) (ha : EvS X o σ F W (.ow l) W) (hb : EvS X e σ F W (kd k) W) (hf : EvS X f σ F W (g y) W) (hw : W l = some (.dK vs)) (hk : RepK F vs (eTm kf g t)) (m : M2 X o "get" apos e f pos := by exact ⟨rfl, rfl, rfl, rfl⟩) : EvS X (.Call (.Attribute o "get" apos) [e, f] [] pos) σ F W (g ((tGet t k).getD y)) W := fun H w Q q =>
  tm_of (pe_dget2 (room_u hr) pe_tm pe_tm pe_tm m) (ha H w _ fun v1 F1 H1 g1 r1 => by
    cases r1
    refine ⟨l, rfl, .inl ⟨vs, .inl (g1.st.w l _ hw)⟩, (hb.mono g1.ex).then g1 fun v2 F2 H2 g2 g02 r2 => (hf.mono g02.ex).then g02 fun v3 F3 H3 g3 g03 r3 => ?_⟩
    have hd := g03.st.w l _ hw
    have hky := ke.rep F2 v2 k r2
    rcases (RepK.mono g03.ex hk).get (k := kf k) with ⟨e1, e2⟩ | ⟨v0, d0, e1, e2, qq⟩
    · rw [eTm_get ke.inj, Option.map_eq_none_iff] at e2
      exact ⟨none, .inl ⟨vs, kf k, .inl hd, hky, by rw [valV_t, e1]⟩, q v3 F3 H3 g03 (by rw [e2]; exact r3)⟩
    · rw [eTm_get ke.inj, Option.map_eq_some_iff] at e2
      obtain ⟨x, hx, rfl⟩ := e2
      exact ⟨some v0, .inl ⟨vs, kf k, .inl hd, hky, by rw [valV_t, e1]⟩, q v0 F3 H3 g03 (by rw [hx]; exact qq)⟩)
variable {A : AE} {rest : List Stmt}
theorem bl_tput {l : Addr} {vs : List (Key × V)} (ke : KEn kf kd) (hr : Room n X.A) (he : EvS X e σ F W (g x) W) (ha : EvS X o σ F W (.ow l) W) (hb : EvS X i σ F W (kd k) W) (hw : W l = some (.dK vs)) (hk : RepK F vs (eTm kf g t)) (hz : t.length < 100000)
    (kk : ∀ vs2 F1, Same F F1 → RepK F1 vs2 (eTm kf g (tPut t k x)) → BlkS X rest σ F1 (upd W l (.dK vs2)) A) (hs : swapsWith e (some (.Subscript o i tpos)) pos.line X.env = pure false := by rfl) :
    BlkS X (.Assign [.Subscript o i tpos] e pos :: rest) σ F W A := fun H w E ok =>
  tmB_of (pss_cons (ps_dput (room_u hr) pe_tm pe_tm pe_tm hs) pss_tm) (he H w _ fun v F1 H1 g1 r => (ha.mono g1.ex).then g1 fun v2 F2 H2 g2 g02 r2 => (hb.mono g02.ex).then g02 fun v3 F3 H3 g3 g03 r3 => by
    cases r2
    have hk3 := RepK.mono g03.ex hk
    have hl := hk3.len
    rw [eTm_len] at hl
    refine ⟨l, _, rfl, .inl ⟨vs, kf k, g03.st.w l _ hw, ke.rep _ _ _ r3, by rw [hl]; exact sz_lt (by omega), rfl⟩, ?_⟩
    have rv := r.mono (g2.ex.trans g3.ex)
    refine (kk (putK vs (kf k) v) F3 g03.ex ?_).run ok (g03.trans (Go.put g03.st hw))
    rw [putK_t, ← eTm_put ke.inj]
    exact hk3.put rv)
/-- a new dict, nobody else's -/
def EvM (X : Cx) (e : Expr) (σ : L2.St) (F W : Hp) (ds : List (Key × D)) (W1 : Hp) : Prop :=
  ∀ H, Wd F W H → ∀ Q : VK, (∀ p vs F' H', Go F W H F' (upd W1 p (.dK vs)) H' → RepK F' vs ds → W1 p = none → F' p = none → Q (.ref p) H') → tmE X e σ H Q
theorem em_new : EvM X (.Dict [] [] pos) σ F W [] W := fun H w Q q => tm_of pe_dnewK fun p hp => q p [] _ _ (Go.own w hp) .nil (w.fresh hp).2 (w.fresh hp).1
theorem ev_ofM {ds : List (Key × D)} (h : EvM X e σ F W ds W1) (hz : ds.length ≤ 100000) : EvS X e σ F W (.dk ds) W1 := fun H w Q q =>
  h H w Q fun p vs F' H' g1 r wp fp => by
    have fr := Go.freeze g1.st (p := p) upd_same
    rw [del_upd wp] at fr
    exact q _ _ _ (g1.trans fr) (.dk (.inl upd_same) (RepK.mono fr.ex r) hz)
theorem bl_asgM {j : Nat} {z : Str} {pos' : Pos} {ds : List (Key × D)} (h : EvM X e σ F W ds W1) (kk : ∀ l vs F1, Same F F1 → RepK F1 vs ds → W1 l = none → BlkS X rest (σ.set j (some (.ref l))) F1 (upd W1 l (.dK vs)) A) (hi : X.N[j]? = some z := by rfl) (hx : Loc X.env.scope z := by first | exact Or.inl rfl | exact Or.inr rfl)
    (hs : swapsWith e (some (.Name z pos')) pos.line X.env = pure false := by rfl) (hN : X.N.Nodup := by first | assumption | decide +kernel) (hf : X.fn z = true ∨ X.env.scope.names.lookup z = some .local := by first | exact .inl rfl | exact .inr rfl) :
    BlkS X (.Assign [.Name z pos'] e pos :: rest) σ F W A := fun H w E ok =>
  tmB_of (pss_cons (ps_set hN hi hx pe_tm hs hf) pss_tm) (h H w _ fun l vs F' H' g r wl fl => (kk l vs F' g.ex r wl).run ok g)
theorem bl_freezeM {l : Addr} {vs : List (Key × V)} {ds : List (Key × D)} {sts : List Stmt} (hw : W l = some (.dK vs)) (r : RepK F vs ds) (hz : ds.length ≤ 100000) (kk : ∀ F1, Same F F1 → F1 l = some (.dK vs) → Rep F1 (.ref l) (.dk ds) → BlkS X sts σ F1 (del W l) A) : BlkS X sts σ F W A := fun H w E ok => by
  have g1 := Go.freeze w hw
  exact (kk (upd F l (.dK vs)) g1.ex upd_same (.dk (.inl upd_same) (RepK.mono g1.ex r) hz)).run ok g1
end
end Z
set_option Elab.async false
set_option linter.all false
set_option maxRecDepth 100000
set_option maxHeartbeats 1000000
namespace Z
open PySem PySem.Spec PyProof.Rows L2
/-- a dict comprehension over a walk: Pv by the turn and the heap (the new dict at Dl within) -/
theorem dc_walk {J : It} {n : Nat} {G : Hp → Prop} {Y : Nat → Hp → V → Hp → Prop} (w : Walk J n G Y) {g : TG} {tt : TT} {tk tv : TE} {vs : List Nat} {σ : L2.St} {H1 : Hp} {Dl : Addr} {Qd : Hp → Prop} (Pv : Nat → Hp → Prop)
    (h0 : Pv 0 (upd H1 Dl (.dK []))) (hG : ∀ i H, i ≤ n → Pv i H → G H)
    (hs : ∀ i x H H', i < n → Pv i H → Y i H x H' → g x (wipe σ vs) H' fun σ2 H2 => wipe σ2 vs = wipe σ vs ∧ tt σ2 H2 fun b H3 =>
      if b = true then tk σ2 H3 fun y H4 => tv σ2 H4 fun z H5 => ∃ kvs k, y = kV k ∧ H5 Dl = some (.dK kvs) ∧ kvs.length < sizeLine ∧ Pv (i + 1) (upd H5 Dl (.dK (putK kvs k z)))
      else Pv (i + 1) H3) (hd : ∀ H, Pv n H → Qd H) :
    ∃ W : Nat → Nat → Hp → Prop, (∃ m, W 0 m (upd H1 Dl (.dK []))) ∧ ∀ i m H, W i m H → (J.stop i H ∧ Qd H) ∨
      (J.go i H ∧ ∃ Nx : Hp → Prop, (∀ H', Nx H' → ∃ m', m' < m ∧ W (i + 1) m' H') ∧ ∀ x H', J.yld i H x H' →
        g x (wipe σ vs) H' fun σ2 H2 => wipe σ2 vs = wipe σ vs ∧ tt σ2 H2 fun b H3 =>
          if b = true then tk σ2 H3 fun y H4 => tv σ2 H4 fun z H5 => ∃ kvs k, y = kV k ∧ H5 Dl = some (.dK kvs) ∧ kvs.length < sizeLine ∧ Nx (upd H5 Dl (.dK (putK kvs k z)))
          else Nx H3) := by
  refine ⟨fun i m H => i + m = n ∧ Pv i H, ⟨n, Nat.zero_add n, h0⟩, fun i m H ⟨hm, p⟩ => ?_⟩
  have q := hG i H (by omega) p
  cases m with
  | zero =>
    have e : i = n := by omega
    subst e
    exact .inl ⟨w.stops H q, hd H p⟩
  | succ m => exact .inr ⟨w.goes i H (by omega) q, Pv (i + 1), fun H' p' => ⟨m, Nat.lt_succ_self m, by omega, p'⟩, fun x H' y => hs i x H H' (by omega) p (w.yields i H x H' (by omega) q y)⟩
section
variable {X : Cx} {e elt kx vx tg iter : Expr} {es ifs : List Expr} {σ : L2.St} {F F1 W W1 W2 : Hp} {d d1 d2 : D} {pos p apos cpos : Pos} {n : Nat}
variable {κ α β : Type} [DecidableEq κ] {kf : κ → Key} {kd : κ → D} {g : α → D} {f : β → D}
/-- one turn: the target at v, the tests, key and value -/
def TurnD (X : Cx) (scope : Scope) (vs : List Nat) (tg : Expr) (ifs : List Expr) (kx vx : Expr) (v : V) (σ : L2.St) (F W : Hp) (b : Bool) (d1 d2 : D) : Prop :=
  ∀ s H0 C cl fp, TgT (bX X scope s H0 C cl fp) tg v (wipe σ vs) F W fun σ2 => wipe σ2 vs = wipe σ vs ∧ (∀ s H0 C cl fp, EvTs (bX X scope s H0 C cl fp) ifs σ2 F W b W) ∧
    (b = true → ∀ s H0 C cl fp, EvS (bX X scope s H0 C cl fp) kx σ2 F W d1 W ∧ EvS (bX X scope s H0 C cl fp) vx σ2 F W d2 W)
def tMk (p : β → Bool) (kk : β → κ) (vv : β → α) (xs : List β) : List (κ × α) := (xs.filter p).foldl (fun acc x => tPut acc (kk x) (vv x)) []
theorem tMk_snoc (p : β → Bool) (kk : β → κ) (vv : β → α) (xs : List β) (x : β) : tMk p kk vv (xs ++ [x]) = if p x = true then tPut (tMk p kk vv xs) (kk x) (vv x) else tMk p kk vv xs := by
  unfold tMk
  rw [List.filter_append, List.foldl_append]
  cases h : p x with
  | true => rw [List.filter_cons_of_pos h, if_pos rfl]; rfl
  | false => rw [List.filter_cons_of_neg (by rw [h]; exact Bool.false_ne_true), if_neg Bool.false_ne_true]; rfl
theorem tMk_len (p : β → Bool) (kk : β → κ) (vv : β → α) (xs : List β) : (tMk p kk vv xs).length ≤ xs.length := by
  have key : ∀ (l : List β) (t : List (κ × α)), (l.foldl (fun acc x => tPut acc (kk x) (vv x)) t).length ≤ t.length + l.length := by
    intro l
    induction l with
    | nil => intro t; exact Nat.le_refl _
    | cons x l ih =>
      intro t
      rw [List.foldl_cons]
      have h1 := ih (tPut t (kk x) (vv x))
      have h2 := tPut_len t (kk x) (vv x)
      simp only [List.length_cons]; omega
  have h1 := key (xs.filter p) []
  have h2 := List.length_filter_le p xs
  show ((xs.filter p).foldl _ []).length ≤ _
  simp only [List.length_nil] at h1
  omega
/-- what a dict comprehension makes -/
def DcS (X : Cx) (kx vx tg iter : Expr) (ifs : List Expr) (scope : Scope) (own : List (Str × Nat)) (σ : L2.St) (F W : Hp) (ds : List (Key × D)) (W1 : Hp) : Prop :=
  ∀ H, Wd F W H → ∀ Q : VK, (∀ p vs F' H', Go F W H F' (upd W1 p (.dK vs)) H' → RepK F' vs ds → W1 p = none → F' p = none → Q (.ref p) H') → tDc (tmI X tg iter) (bG X scope tg) (bTs X scope ifs) (bE X scope kx) (bE X scope vx) (own.map (·.2)) σ H Q
theorem dc_comp {own : List (Str × Nat)} {scope : Scope} {xs : List β} (ke : KEn kf kd) (pb : β → Bool) (kk : β → κ) (vv : β → α) (hi : EvI X tg iter σ F W (xs.map f) W1) (hz : xs.length ≤ 100000)
    (body : ∀ x ∈ xs, ∀ v F1, Same F F1 → Rep F1 v (f x) → TurnD X scope (own.map (·.2)) tg ifs kx vx v σ F1 W1 (pb x) (kd (kk x)) (g (vv x))) :
    DcS X kx vx tg iter ifs scope own σ F W (eTm kf g (tMk pb kk vv xs)) W1 := fun H w Q q =>
    (hi H w _ fun J G Y F1 H1 g1 wk hG hY => fun Dl hD => by
      have hDl := g1.st.fresh hD
      rw [List.length_map] at wk
      refine dc_walk wk (fun i H' => ∃ Fi kvs, Go F1 (upd W1 Dl (.dK [])) (upd H1 Dl (.dK [])) Fi (upd W1 Dl (.dK kvs)) H' ∧ RepK Fi kvs (eTm kf g (tMk pb kk vv (xs.take i)))) ?_ ?_ ?_ ?_
      · exact ⟨F1, [], Go.refl (Go.own g1.st hD).st, .nil⟩
      · rintro i H' _ ⟨Fi, kvs, gi, _⟩
        exact hG Fi _ H' gi.ex gi.st
      · rintro i x H' H'' hi' ⟨Fi, kvs, gi, rk⟩ hy
        have ex : (xs.map f)[i]? = some (f xs[i]) := by rw [List.getElem?_map, List.getElem?_eq_getElem hi']; rfl
        obtain ⟨F3, g3, r3⟩ := hY i Fi _ H' H'' x (f xs[i]) gi.ex gi.st hy ex
        have w3 := g3.st.less hDl.2
        have tn := body xs[i] (List.getElem_mem hi') x F3 ((g1.ex.trans gi.ex).trans g3.ex) r3
        have et : xs.take (i + 1) = xs.take i ++ [xs[i]] := by rw [List.take_add_one, List.getElem?_eq_getElem hi']; rfl
        intro s0 H0' C cl fp
        refine tn s0 H0' C cl fp H'' w3 _ fun σ2 ⟨hσ, ht, he⟩ => ⟨hσ, fun s1 H1' C1 cl1 fp1 => ht s1 H1' C1 cl1 fp1 H'' w3 _ fun F4 H4 g4 => ?_⟩
        obtain ⟨_, g4'⟩ := g4.more g3.st hDl.2
        cases hp : pb xs[i] with
        | false =>
          rw [if_neg Bool.false_ne_true, et, tMk_snoc, hp]
          exact ⟨F4, kvs, gi.trans (g3.trans g4'), RepK.mono (g3.ex.trans g4.ex) rk⟩
        | true =>
          rw [if_pos rfl]
          intro s5 H5' C5 cl5 fp5
          refine ((he hp s5 H5' C5 cl5 fp5).1).mono g4.ex H4 g4.st _ fun y F5 H5 g5 r5 => ?_
          intro s6 H6' C6 cl6 fp6
          refine ((he hp s6 H6' C6 cl6 fp6).2).mono (g4.ex.trans g5.ex) H5 g5.st _ fun z F6 H6 g6 r6 => ?_
          obtain ⟨_, g5'⟩ := g5.more g4'.st hDl.2
          obtain ⟨_, g6'⟩ := g6.more g5'.st hDl.2
          have hcell : H6 Dl = some (.dK kvs) := g6'.st.w Dl _ upd_same
          have rk' := RepK.mono (g3.ex.trans (g4.ex.trans (g5.ex.trans g6.ex))) rk
          have hlen : kvs.length ≤ i := by
            rw [rk'.len, eTm_len]
            have := tMk_len pb kk vv (xs.take i)
            rw [List.length_take] at this; omega
          refine ⟨kvs, kf (kk xs[i]), ke.rep _ _ _ r5, hcell, Nat.lt_of_le_of_lt hlen (Nat.lt_of_lt_of_le (by omega) (sz_ok (Nat.le_refl 100000))), F6, putK kvs (kf (kk xs[i])) z, ?_, ?_⟩
          · have gp := Go.put (o := .dK (putK kvs (kf (kk xs[i])) z)) g6'.st (p := Dl) upd_same
            rw [upd_upd] at gp
            exact gi.trans (g3.trans (g4'.trans (g5'.trans (g6'.trans gp))))
          · rw [et, tMk_snoc, hp, if_pos rfl, putK_t, ← eTm_put ke.inj]
            exact rk'.put r6
      · rintro H' ⟨Fi, kvs, gi, rk⟩
        rw [List.take_length] at rk
        exact q Dl kvs Fi H' ((g1.trans (Go.own g1.st hD)).trans gi) rk hDl.2 (by
          rcases opt_cases (Fi Dl) with z | ⟨z, hz⟩
          · exact z
          · have := gi.st.d Dl z hz; rw [upd_same] at this; cases this))
theorem em_of {own : List (Str × Nat)} {scope : Scope} {ds : List (Key × D)} (h : DcS X kx vx tg iter ifs scope own σ F W ds W1) (ok : BlkOk X.N X.env.scope scope own := by exact blkOk_by (by decide +kernel)) (hc : X.calm = true := by rfl) (hN : X.N.Nodup := by first | assumption | decide +kernel) (hs : ∀ x, foldedSetIterable iter X.env x = pure x := by intro _; rfl) :
    EvM X (.DictComp kx vx [⟨tg, iter, ifs, 0⟩] scope pos) σ F W ds W1 := fun H w Q q =>
  tm_of (pe_dc (g := bG X scope tg) (tt := bTs X scope ifs) (tk := bE X scope kx) (tv := bE X scope vx) hc hN pi_tm ok (fun s H0 C cl fp => ⟨fun pins s1 σ1 H1 v u Q1 I r h => h s H0 C cl fp pins s1 u I r⟩)
    (fun s H0 C cl fp => ⟨fun pins s1 σ1 H1 Q1 I h => h s H0 C cl fp pins s1 I⟩) (fun s H0 C cl fp => ⟨fun pins s1 σ1 H1 Q1 I h => h s H0 C cl fp pins s1 I⟩) (fun s H0 C cl fp => ⟨fun pins s1 σ1 H1 Q1 I h => h s H0 C cl fp pins s1 I⟩) hs) (h H w Q q)
theorem em_comp {own : List (Str × Nat)} {scope : Scope} {xs : List β} (ke : KEn kf kd) (pb : β → Bool) (kk : β → κ) (vv : β → α) (hi : EvI X tg iter σ F W (xs.map f) W1) (hz : xs.length ≤ 100000)
    (body : ∀ x ∈ xs, ∀ v F1, Same F F1 → Rep F1 v (f x) → TurnD X scope (own.map (·.2)) tg ifs kx vx v σ F1 W1 (pb x) (kd (kk x)) (g (vv x)))
    (ok : BlkOk X.N X.env.scope scope own := by exact blkOk_by (by decide +kernel)) (hc : X.calm = true := by rfl) (hN : X.N.Nodup := by first | assumption | decide +kernel) (hs : ∀ x, foldedSetIterable iter X.env x = pure x := by intro _; rfl) :
    EvM X (.DictComp kx vx [⟨tg, iter, ifs, 0⟩] scope pos) σ F W (eTm kf g (tMk pb kk vv xs)) W1 := em_of (dc_comp (own := own) (f := f) (g := g) ke pb kk vv hi hz body) ok hc hN hs
theorem ev_comp {own : List (Str × Nat)} {scope : Scope} {xs : List β} (ke : KEn kf kd) (pb : β → Bool) (kk : β → κ) (vv : β → α) (hi : EvI X tg iter σ F W (xs.map f) W1) (hz : xs.length ≤ 100000)
    (body : ∀ x ∈ xs, ∀ v F1, Same F F1 → Rep F1 v (f x) → TurnD X scope (own.map (·.2)) tg ifs kx vx v σ F1 W1 (pb x) (kd (kk x)) (g (vv x)))
    (ok : BlkOk X.N X.env.scope scope own := by exact blkOk_by (by decide +kernel)) (hc : X.calm = true := by rfl) (hN : X.N.Nodup := by first | assumption | decide +kernel) (hs : ∀ x, foldedSetIterable iter X.env x = pure x := by intro _; rfl) :
    EvS X (.DictComp kx vx [⟨tg, iter, ifs, 0⟩] scope pos) σ F W (eT kf g (tMk pb kk vv xs)) W1 :=
  ev_ofM (em_comp (own := own) (f := f) (g := g) ke pb kk vv hi hz body ok hc hN hs) (by rw [eTm_len]; have := tMk_len pb kk vv xs; omega)
end
/-! ## dict(rows of pairs) -/
section
variable {X : Cx} {F W W1 : Hp} {κ α : Type} [DecidableEq κ] {kf : κ → Key} {kd : κ → D} {g : α → D}
theorem mergeK_t : ∀ (m t : List (Key × V)), mergeK t m = m.foldl (fun acc p => tPut acc p.1 p.2) t
  | [], t => rfl
  | p :: m, t => by
    show mergeK (putK t p.1 p.2) m = _
    rw [mergeK_t m, putK_t]; rfl
theorem repK_of {F : Hp} : ∀ {ms : List (Key × V)} {vs : List (Key × V)} {ds : List (Key × D)} {es : List (Key × D)}, RepK F ms es → RepK F vs ds → RepK F (ms.foldl (fun acc p => tPut acc p.1 p.2) vs) (es.foldl (fun acc p => tPut acc p.1 p.2) ds)
  | _, _, _, _, .nil, h => h
  | _, _, _, _, .cons (k := k) r t, h => by
    rw [List.foldl_cons, List.foldl_cons]
    exact repK_of t (h.put (k := k) r)
theorem eTm_of (ke : KEn kf kd) : ∀ (ps : List (κ × α)) (t : List (κ × α)), (eTm kf g ps).foldl (fun acc p => tPut acc p.1 p.2) (eTm kf g t) = eTm kf g (ps.foldl (fun acc p => tPut acc p.1 p.2) t)
  | [], t => rfl
  | p :: ps, t => by
    show (eTm kf g ps).foldl _ (tPut (eTm kf g t) (kf p.1) (g p.2)) = _
    rw [eTm_put ke.inj, eTm_of ke ps]; rfl
theorem tOf_len {ps : List (κ × α)} : (tOf ps).length ≤ ps.length := by
  have key : ∀ (l t : List (κ × α)), (l.foldl (fun acc p => tPut acc p.1 p.2) t).length ≤ t.length + l.length := by
    intro l
    induction l with
    | nil => intro t; exact Nat.le_refl _
    | cons x l ih =>
      intro t
      rw [List.foldl_cons]
      have h1 := ih (tPut t x.1 x.2)
      have h2 := tPut_len t x.1 x.2
      simp only [List.length_cons]; omega
  have := key ps []
  simp only [List.length_nil] at this
  show (ps.foldl _ []).length ≤ _
  omega
theorem pairs_rep (ke : KEn kf kd) {H : Hp} (w : Wd F W H) : ∀ {vs : List V} {ps : List (κ × α)}, Reps F vs (ps.map (eP kd g)) → ∃ (as : List Addr) (kvs : List (Key × V)), vs = as.map V.ref ∧ Paired (fun p kv => SqT X.K H p [kV kv.1, kv.2]) as kvs ∧ RepK F kvs (eTm kf g ps)
  | _, [], .nil => ⟨[], [], rfl, .nil, .nil⟩
  | _, p :: ps, .cons r t => by
    obtain ⟨as, kvs, rfl, hp, hk⟩ := pairs_rep ke w t
    obtain ⟨a, us, rfl, h1, s1, z1⟩ := Rep.tup_inv r
    cases s1 with
    | @cons u1 _ _ _ r1 s1 =>
    cases s1 with
    | @cons u2 _ _ _ r2 s1 =>
    cases s1
    have e1 := ke.rep F u1 p.1 r1
    subst e1
    exact ⟨a :: as, (kf p.1, u2) :: kvs, rfl, .cons (SqT.of (w.tup h1)) hp, .cons r2 hk⟩
theorem cl_dict (ke : KEn kf kd) {ps : List (κ × α)} (hc : X.calm = true := by rfl) : CalR X (.type "dict") F W [eR false (eP kd g) ps] (eT kf g (tOf ps)) := ⟨_, call_dictP hc, fun vs F1 H1 _ r w Q q => by
  cases r with
  | cons r t =>
  cases t
  obtain ⟨l, us, rfl, h1, s1, z1⟩ := r.lst_inv
  obtain ⟨as, kvs, rfl, hp, hk⟩ := pairs_rep (X := X) ke w s1
  refine ⟨l, as, kvs, rfl, SqL.of (w.lst h1), hp, fun p hp => q _ _ _ (Go.new w hp) (.dk (.inl upd_same) ?_ ?_)⟩
  · rw [mergeK_t]
    have := repK_of (F := F1) hk .nil
    rw [show ([] : List (Key × D)) = eTm kf g [] from rfl, eTm_of ke] at this
    exact RepK.mono (Go.new w hp).ex this
  · rw [eTm_len]
    have := tOf_len (ps := ps)
    rw [List.length_map] at z1; omega⟩
end
/-! ## a dict while it is walked -/
/-- the dict at l, locked or not -/
def Lk (F F' : Hp) : Prop := ∀ a o, F a = some o → F' a = some o ∨ ∃ vs, Rd F a (.dK vs) ∧ Rd F' a (.dK vs)
theorem Lk.dk {F F' : Hp} (e : Lk F F') {a : Addr} {vs : List (Key × V)} (h : Rd F a (.dK vs)) : Rd F' a (.dK vs) := by
  have same : ∀ vs', Rd F a (.dK vs') → vs' = vs := fun vs' q => by
    rcases h with h | ⟨o1, h⟩ <;> rcases q with q | ⟨o2, q⟩ <;> (rw [h] at q; cases q) <;> rfl
  rcases h with h | ⟨o1, h⟩
  · rcases e a _ h with q | ⟨vs', q1, q2⟩
    · exact .inl q
    · rw [same vs' q1] at q2; exact q2
  · rcases e a _ h with q | ⟨vs', q1, q2⟩
    · exact .inr ⟨o1, q⟩
    · rw [same vs' q1] at q2; exact q2
theorem Lk.other {F F' : Hp} (e : Lk F F') {a : Addr} {o : HO} (h : F a = some o) (hn : ∀ vs, ¬ Rd F a (.dK vs)) : F' a = some o := by
  rcases e a o h with q | ⟨vs, q, _⟩
  · exact q
  · exact absurd q (hn vs)
theorem not_rd {F : Hp} {a : Addr} {o : HO} (h : F a = some o) (h1 : ∀ vs, o ≠ .dK vs) (h2 : ∀ q vs, o ≠ .frz q (.dK vs)) : ∀ vs, ¬ Rd F a (.dK vs) := fun vs q => by
  rcases q with q | ⟨o1, q⟩
  · rw [h] at q; cases q; exact h1 _ rfl
  · rw [h] at q; cases q; exact h2 _ _ rfl
mutual
theorem Rep.lk {F F' : Hp} (e : Lk F F') : ∀ {v : V} {d : D}, Rep F v d → Rep F' v d
  | _, _, .non => .non
  | _, _, .bl b => .bl b
  | _, _, .int i => .int i
  | _, _, .str s => .str s
  | _, _, .sq (t := t) h r z => .sq (e.other h (not_rd h (by cases t <;> exact fun _ q => nomatch q) (by cases t <;> exact fun _ _ q => nomatch q))) (Reps.lk e r) z
  | _, _, .dk h r z => .dk (e.dk h) (RepK.lk e r) z
  | _, _, .ow a => .ow a
  | _, _, .fz h r z => .fz (h.imp (fun ⟨o, q⟩ => ⟨o, e.other q (not_rd q (fun _ q => nomatch q) (fun _ _ q => nomatch q))⟩) id) (Reps.lk e r) z
  | _, _, .ob h r => .ob (e.other h (not_rd h (fun _ q => nomatch q) (fun _ _ q => nomatch q))) (RepF.lk e r)
theorem Reps.lk {F F' : Hp} (e : Lk F F') : ∀ {v : List V} {d : List D}, Reps F v d → Reps F' v d
  | _, _, .nil => .nil
  | _, _, .cons h r => .cons (Rep.lk e h) (Reps.lk e r)
theorem RepK.lk {F F' : Hp} (e : Lk F F') : ∀ {v : List (Key × V)} {d : List (Key × D)}, RepK F v d → RepK F' v d
  | _, _, .nil => .nil
  | _, _, .cons h r => .cons (Rep.lk e h) (RepK.lk e r)
theorem RepF.lk {F F' : Hp} (e : Lk F F') : ∀ {v : List (Str × V)} {d : List (Str × D)}, RepF F v d → RepF F' v d
  | _, _, .nil => .nil
  | _, _, .cons h r => .cons (Rep.lk e h) (RepF.lk e r)
end
theorem lk_lock {F : Hp} {l : Addr} {od : Obj} {vs : List (Key × V)} (h : F l = some (.dK vs)) : Lk F (upd F l (.frz od (.dK vs))) := fun a o q => by
  by_cases e : a = l
  · subst e; exact .inr ⟨vs, .inl h, .inr ⟨od, upd_same⟩⟩
  · exact .inl (by rw [upd_ne e]; exact q)
theorem lk_free {F : Hp} {l : Addr} {od : Obj} {vs : List (Key × V)} (h : F l = some (.frz od (.dK vs))) : Lk F (upd F l (.dK vs)) := fun a o q => by
  by_cases e : a = l
  · subst e; exact .inr ⟨vs, .inr ⟨od, h⟩, .inl upd_same⟩
  · exact .inl (by rw [upd_ne e]; exact q)
section
variable {X : Cx} {e tg iter : Expr} {σ : L2.St} {F W W1 : Hp} {d : D} {apos cpos pos : Pos}
theorem Go.unlock {l : Addr} {vs : List (Key × V)} {od : Obj} {H F2 W2 H2 : Hp} (w : Wd F W H) (hF : F l = some (.dK vs)) (hH : H l = some (.dK vs)) (g2 : Go (upd F l (.frz od (.dK vs))) W (upd H l (.frz od (.dK vs))) F2 W2 H2) : Go F W H (upd F2 l (.dK vs)) W2 (upd H2 l (.dK vs)) := by
  have f2 : F2 l = some (.frz od (.dK vs)) := g2.ex l _ upd_same
  refine ⟨⟨fun a o z => ?_, fun a o z => ?_, fun a o z => ?_⟩, fun a o z => ?_, fun a o z n => ?_, fun a o z z2 => ?_, fun a o z => ?_⟩
  · by_cases ea : a = l
    · subst ea; rw [upd_same] at z ⊢; exact .inl z
    · rw [upd_ne ea] at z ⊢; exact g2.st.f a o z
  · have ea : a ≠ l := fun ea => by subst ea; rw [g2.st.d a _ f2] at z; cases z
    rw [upd_ne ea]; exact g2.st.w a o z
  · by_cases ea : a = l
    · subst ea; exact g2.st.d a _ f2
    · rw [upd_ne ea] at z; exact g2.st.d a o z
  · by_cases ea : a = l
    · subst ea; rw [hF] at z; rw [upd_same]; exact z
    · rw [upd_ne ea]; exact g2.ex a o (by rw [upd_ne ea]; exact z)
  · by_cases ea : a = l
    · subst ea; rw [hH] at z; rw [upd_same]; exact z
    · rw [upd_ne ea]; exact g2.keep a o (by rw [upd_ne ea]; exact z) n
  · have ea : a ≠ l := fun ea => by subst ea; rw [hF] at z; cases z
    rw [upd_ne ea] at z2
    rcases g2.nF a o (by rw [upd_ne ea]; exact z) z2 with y | y
    · rw [upd_ne ea] at y; exact .inl y
    · exact .inr y
  · rcases g2.nW a o z with y | y
    · exact .inl y
    · have ea : a ≠ l := fun ea => by subst ea; rw [upd_same] at y; cases y
      rw [upd_ne ea] at y; exact .inr y
theorem Go.unlock2 {l : Addr} {vs : List (Key × V)} {od : Obj} {H F2 W2 H2 : Hp} (w : Wd F W H) (hF : F l = some (.dK vs)) (g2 : Go (upd F l (.frz od (.dK vs))) W H F2 W2 H2) : Go F W H (upd F2 l (.dK vs)) W2 H2 := by
  have f2 : F2 l = some (.frz od (.dK vs)) := g2.ex l _ upd_same
  refine ⟨⟨fun a o z => ?_, g2.st.w, fun a o z => ?_⟩, fun a o z => ?_, g2.keep, fun a o z z2 => ?_, g2.nW⟩
  · by_cases ea : a = l
    · subst ea; rw [upd_same] at z; cases z
      rcases g2.st.f a _ f2 with y | ⟨y, _⟩
      · exact .inr ⟨rfl, od, y⟩
      · cases y
    · rw [upd_ne ea] at z; exact g2.st.f a o z
  · by_cases ea : a = l
    · subst ea; exact g2.st.d a _ f2
    · rw [upd_ne ea] at z; exact g2.st.d a o z
  · by_cases ea : a = l
    · subst ea; rw [hF] at z; rw [upd_same]; exact z
    · rw [upd_ne ea]; exact g2.ex a o (by rw [upd_ne ea]; exact z)
  · have ea : a ≠ l := fun ea => by subst ea; rw [hF] at z; cases z
    rw [upd_ne ea] at z2
    exact g2.nF a o (by rw [upd_ne ea]; exact z) z2
theorem Wd.lock {l : Addr} {vs : List (Key × V)} {od : Obj} {H : Hp} (w : Wd F W H) (hF : F l = some (.dK vs)) : Wd (upd F l (.frz od (.dK vs))) W (upd H l (.frz od (.dK vs))) := by
  refine ⟨fun a o z => ?_, fun a o z => ?_, fun a o z => ?_⟩
  · by_cases ea : a = l
    · subst ea; rw [upd_same] at z ⊢; exact .inl z
    · rw [upd_ne ea] at z ⊢; exact w.f a o z
  · have ea : a ≠ l := fun ea => by subst ea; rw [w.d a _ hF] at z; cases z
    rw [upd_ne ea]; exact w.w a o z
  · by_cases ea : a = l
    · subst ea; exact w.d a _ hF
    · rw [upd_ne ea] at z; exact w.d a o z
theorem Wd.lock2 {l : Addr} {vs : List (Key × V)} {od : Obj} {H : Hp} (w : Wd F W H) (hF : F l = some (.dK vs)) (hH : H l = some (.frz od (.dK vs))) : Wd (upd F l (.frz od (.dK vs))) W H := by
  refine ⟨fun a o z => ?_, w.w, fun a o z => ?_⟩
  · by_cases ea : a = l
    · subst ea; rw [upd_same] at z; cases z; exact .inl hH
    · rw [upd_ne ea] at z; exact w.f a o z
  · by_cases ea : a = l
    · subst ea; exact w.d a _ hF
    · rw [upd_ne ea] at z; exact w.d a o z
theorem Go.lk {l : Addr} {vs : List (Key × V)} {od : Obj} {H F2 W2 H2 : Hp} (g2 : Go (upd F l (.frz od (.dK vs))) W H F2 W2 H2) : F2 l = some (.frz od (.dK vs)) ∧ H2 l = some (.frz od (.dK vs)) := by
  have f2 : F2 l = some (.frz od (.dK vs)) := g2.ex l _ upd_same
  refine ⟨f2, ?_⟩
  rcases g2.st.f l _ f2 with z | ⟨z, _⟩
  · exact z
  · cases z
theorem ev_lock {l : Addr} {vs : List (Key × V)} (hF : F l = some (.dK vs)) (h : ∀ od, EvS X e σ (upd F l (.frz od (.dK vs))) W d W1) : EvS X e σ F W d W1 := fun H w Q q => by
  rcases w.f l _ hF with hH | ⟨_, od, hH⟩
  · exact tm_of (pe_lock pe_tm) ⟨l, .dK vs, hH, trivial, fun od => h od _ (w.lock hF) _ fun v F2 H2 g2 r2 => ⟨g2.lk.2, q v _ _ (Go.unlock w hF hH g2) (Rep.lk (lk_free g2.lk.1) r2)⟩⟩
  · exact h od H (w.lock2 hF hH) Q fun v F2 H2 g2 r2 => q v _ H2 (Go.unlock2 w hF g2) (Rep.lk (lk_free g2.lk.1) r2)
theorem em_lock {l : Addr} {vs : List (Key × V)} {ds : List (Key × D)} (hF : F l = some (.dK vs)) (h : ∀ od, EvM X e σ (upd F l (.frz od (.dK vs))) W ds W1) : EvM X e σ F W ds W1 := fun H w Q q => by
  rcases w.f l _ hF with hH | ⟨_, od, hH⟩
  · exact tm_of (pe_lock pe_tm) ⟨l, .dK vs, hH, trivial, fun od => h od _ (w.lock hF) _ fun p vs2 F2 H2 g2 r2 wp fp => ⟨g2.lk.2, q p vs2 _ _ (Go.unlock w hF hH g2) (RepK.lk (lk_free g2.lk.1) r2) wp (by
      have ea : p ≠ l := fun ea => by subst ea; rw [g2.lk.1] at fp; cases fp
      rw [upd_ne ea]; exact fp)⟩⟩
  · exact h od H (w.lock2 hF hH) Q fun p vs2 F2 H2 g2 r2 wp fp => q p vs2 _ H2 (Go.unlock2 w hF g2) (RepK.lk (lk_free g2.lk.1) r2) wp (by
      have ea : p ≠ l := fun ea => by subst ea; rw [g2.lk.1] at fp; cases fp
      rw [upd_ne ea]; exact fp)
variable {kx vx : Expr} {ifs : List Expr} {A : AE} {rest : List Stmt}
theorem sw_dict {gs : List Comprehension} {scope : Scope} {p py : Pos} {y : Str} {l : Nat} {env : Env} (hk : env.scope.kind = .function) (hy : env.scope.names.lookup y = some .local) (hl : (py.line == p.line) = true)
    (ha : (scope.names.any fun (n, k) => n == y && (k == .local || k == .cell)) = false) : swapsWith (.DictComp kx vx gs scope p) (some (.Name y py)) l env = pure true := by
  have e1 : env.kindOf y = some .local := hy
  have e2 : env.blockKind = .function := by unfold Env.blockKind; rw [hk]; rfl
  simp only [swapsWith, e2, e1, ha, Expr.pos, hl]
  rfl
/-- name = {..} on one line: the name is stored within the comprehension -/
theorem ps_setDc {i : Nat} {y : Str} {py p spos : Pos} {scope : Scope} {own : List (Str × Nat)} {wi : TI} {g : TG} {tt : TT} {tk tv : TE} (hc : X.calm = true) (hN : X.N.Nodup) (hy : X.N[i]? = some y) (hyl : X.env.scope.names.lookup y = some .local)
    (hsw : swapsWith (.DictComp kx vx [⟨tg, iter, ifs, 0⟩] scope p) (some (.Name y py)) spos.line X.env = pure true) (hi : PI X tg iter wi) (ok : BlkOk X.N X.env.scope scope own)
    (hg : ∀ s H C cl fp, PG (X.blk s H scope (compEnvC scope cl C X.env) fp) tg g) (ht : ∀ s H C cl fp, PTs (X.blk s H scope (compEnvC scope cl C X.env) fp) ifs tt)
    (hk : ∀ s H C cl fp, PE (X.blk s H scope (compEnvC scope cl C X.env) fp) kx tk) (he : ∀ s H C cl fp, PE (X.blk s H scope (compEnvC scope cl C X.env) fp) vx tv) (hs : ∀ x, foldedSetIterable iter X.env x = pure x) :
    PS X (.Assign [.Name y py] (.DictComp kx vx [⟨tg, iter, ifs, 0⟩] scope p) spos) (tAsg (tDc wi g tt tk tv (own.map (·.2))) (gName i)) := by
  refine ⟨fun pins s σ H D I h0 => ?_⟩
  have h1 : tDc wi g tt tk tv (own.map (·.2)) σ H (fun x H1 => gName i x σ H1 D.nx) := h0
  rw [exec_Assign_Name_used _ _ _ _ hsw]
  refine wpAny_bind (wpAny_standAt (wpAny_bind ?_))
  show wpAny _ X.A (do let _ ← comprehension (.DictComp kx vx [⟨tg, iter, ifs, 0⟩] scope p) scope X.env (firstIterPos [⟨tg, iter, ifs, 0⟩] p) newDict false (eval iter X.env) (some (assign (.Name y py) X.env))) _ _ s
  refine wpAny_bind (thn (dc_core (Qf := fun _ t => SP X pins D .next t) hc hN I hi ok hg ht hk he hs h1 fun L C s1 m H1 I1 q1 ns1 f1 => ?_) fun _ t hq => wpAny_pure (wpAny_pure hq))
  show wpAny _ _ (assign (.Name y py) X.env (.ref L)) _ _ _
  refine wpAny_assign_Name (store_ok2 (v := V.ref L) I1 hN hy (.inl hyl) rfl (fun s2 I2 ⟨a, sb, ha⟩ => ?_) (.inr hyl))
  have hne : C ≠ a := ha.elim (fun z => z ▸ f1.2.1) fun z e => f1.2.2.2.2.1 y a z e.symm
  exact ⟨m, ns1.sameBut sb hne, fun h3 sb3 => ⟨_, H1, I2.turned (t' := s2.toks) (fun b o hb e => (sb3.2 b hb).trans e) f1.1 f1.2.1 f1.2.2.2.1 f1.2.2.2.2.1 f1.2.2.2.2.2, q1⟩⟩
section
variable {i : Nat} {y : Str} {py p spos : Pos} {scope : Scope} {own : List (Str × Nat)} {ds : List (Key × D)}
theorem ps_setDcZ (hy : X.N[i]? = some y) (hyl : X.env.scope.names.lookup y = some .local) (hsw : swapsWith (.DictComp kx vx [⟨tg, iter, ifs, 0⟩] scope p) (some (.Name y py)) spos.line X.env = pure true) (ok : BlkOk X.N X.env.scope scope own) (hc : X.calm = true) (hN : X.N.Nodup) (hs : ∀ x, foldedSetIterable iter X.env x = pure x) :
    PS X (.Assign [.Name y py] (.DictComp kx vx [⟨tg, iter, ifs, 0⟩] scope p) spos) (tAsg (tDc (tmI X tg iter) (bG X scope tg) (bTs X scope ifs) (bE X scope kx) (bE X scope vx) (own.map (·.2))) (gName i)) :=
  ps_setDc hc hN hy hyl hsw pi_tm ok (fun s H0 C cl fp => ⟨fun pins s1 σ1 H1 v u Q1 I r h => h s H0 C cl fp pins s1 u I r⟩)
    (fun s H0 C cl fp => ⟨fun pins s1 σ1 H1 Q1 I h => h s H0 C cl fp pins s1 I⟩) (fun s H0 C cl fp => ⟨fun pins s1 σ1 H1 Q1 I h => h s H0 C cl fp pins s1 I⟩) (fun s H0 C cl fp => ⟨fun pins s1 σ1 H1 Q1 I h => h s H0 C cl fp pins s1 I⟩) hs
theorem bl_setDc (h : DcS X kx vx tg iter ifs scope own σ F W ds W1) (k : ∀ l vs F1, Same F F1 → RepK F1 vs ds → W1 l = none → BlkS X rest (σ.set i (some (.ref l))) F1 (upd W1 l (.dK vs)) A) (hy : X.N[i]? = some y := by rfl)
    (hyl : X.env.scope.names.lookup y = some .local := by rfl) (hsw : swapsWith (.DictComp kx vx [⟨tg, iter, ifs, 0⟩] scope p) (some (.Name y py)) spos.line X.env = pure true := by exact sw_dict rfl rfl rfl (by decide +kernel)) (ok : BlkOk X.N X.env.scope scope own := by exact blkOk_by (by decide +kernel)) (hc : X.calm = true := by rfl) (hN : X.N.Nodup := by first | assumption | decide +kernel) (hs : ∀ x, foldedSetIterable iter X.env x = pure x := by intro _; rfl) :
    BlkS X (.Assign [.Name y py] (.DictComp kx vx [⟨tg, iter, ifs, 0⟩] scope p) spos :: rest) σ F W A := fun H w E ok2 =>
  tmB_of (pss_cons (ps_setDcZ hy hyl hsw ok hc hN hs) pss_tm) (h H w (fun x H1 => tmB X rest E (σ.set i (some x)) H1) fun l vs F' H' g r wl fl => (k l vs F' g.ex r wl).run ok2 g)
/-- .. of the dict at l, that is walked -/
theorem bl_setDcL {l : Addr} {vs : List (Key × V)} (hF : F l = some (.dK vs)) (h : ∀ od, DcS X kx vx tg iter ifs scope own σ (upd F l (.frz od (.dK vs))) W ds W1) (k : ∀ l vs F1, Same F F1 → RepK F1 vs ds → W1 l = none → BlkS X rest (σ.set i (some (.ref l))) F1 (upd W1 l (.dK vs)) A) (hy : X.N[i]? = some y := by rfl)
    (hyl : X.env.scope.names.lookup y = some .local := by rfl) (hsw : swapsWith (.DictComp kx vx [⟨tg, iter, ifs, 0⟩] scope p) (some (.Name y py)) spos.line X.env = pure true := by exact sw_dict rfl rfl rfl (by decide +kernel)) (ok : BlkOk X.N X.env.scope scope own := by exact blkOk_by (by decide +kernel)) (hc : X.calm = true := by rfl) (hN : X.N.Nodup := by first | assumption | decide +kernel) (hs : ∀ x, foldedSetIterable iter X.env x = pure x := by intro _; rfl) :
    BlkS X (.Assign [.Name y py] (.DictComp kx vx [⟨tg, iter, ifs, 0⟩] scope p) spos :: rest) σ F W A := fun H w E ok2 => by
  rcases w.f l _ hF with hH | ⟨_, od, hH⟩
  · refine tmB_of (pss_cons (ps_lock (ps_setDcZ hy hyl hsw ok hc hN hs)) pss_tm) ⟨l, .dK vs, hH, trivial, fun od => h od _ (w.lock hF) _ fun p vs2 F2 H2 g2 r2 wp fp => ⟨g2.lk.2, ?_⟩⟩
    exact (k p vs2 _ (Go.unlock w hF hH g2).ex (RepK.lk (lk_free g2.lk.1) r2) wp).run ok2 (Go.unlock w hF hH g2)
  · refine tmB_of (pss_cons (ps_setDcZ hy hyl hsw ok hc hN hs) pss_tm) (h od H (w.lock2 hF hH) (fun x H1 => tmB X rest E (σ.set i (some x)) H1) fun p vs2 F2 H2 g2 r2 wp fp => ?_)
    exact (k p vs2 _ (Go.unlock2 w hF g2).ex (RepK.lk (lk_free g2.lk.1) r2) wp).run ok2 (Go.unlock2 w hF g2)
end
end
end Z
set_option Elab.async false
set_option linter.all false
set_option maxRecDepth 100000
set_option maxHeartbeats 1000000
namespace Z
open PySem PySem.Spec PyProof.Rows L2
section
variable {X : Cx} {e a b o tg iter : Expr} {σ : L2.St} {F W W1 W2 : Hp} {d d1 : D} {apos cpos pos p tpos : Pos} {i : Int} {n : Nat}
variable {κ α : Type} [DecidableEq κ] {kf : κ → Key} {kd : κ → D} {g : α → D} {t : List (κ × α)}
theorem repK_at (ke : KEn kf kd) : ∀ {vs : List (Key × V)} {t : List (κ × α)}, RepK F vs (eTm kf g t) → ∀ (j : Nat) (q : κ × α), t[j]? = some q → ∃ u, vs[j]? = some (kf q.1, u) ∧ Rep F u (g q.2)
  | _, [], .nil, j, q, h => by simp at h
  | _, p :: r, .cons (v := v) h1 h2, 0, q, h => by simp at h; subst h; exact ⟨v, rfl, h1⟩
  | _, p :: r, .cons h1 h2, j + 1, q, h => by
    obtain ⟨u, a1, a2⟩ := repK_at (t := r) ke h2 j q (by simpa using h)
    exact ⟨u, by simpa using a1, a2⟩
/-- for k, v in d.items(), d locked -/
theorem ei_items {l : Addr} {od : Obj} {vs : List (Key × V)} {elts : List Expr} {kk : Nat} (ke : KEn kf kd) (he : EvS X e σ F W (.ow l) W) (hF : F l = some (.frz od (.dK vs))) (hk : RepK F vs (eTm kf g t))
    (hbase : attributeBase e "items" X.env (eval e X.env) = eval e X.env := by rfl) (hline : (apos.endLine == cpos.line) = true := by rfl) :
    EvI X (.Tuple elts kk tpos) (.Call (.Attribute e "items" apos) [] [] cpos) σ F W (t.map (eP kd g)) W := fun H w R q =>
  tmI_of (pi_items pe_tm hbase hline) (he H w _ fun v F1 H1 g1 r => by
    cases r
    have hl : ∀ {F2 W2 H2 : Hp}, Same F1 F2 → Wd F2 W2 H2 → H2 l = some (.frz od (.dK vs)) := fun e2 w2 => by
      rcases w2.f l _ (e2 _ _ (g1.ex _ _ hF)) with z | ⟨z, _⟩
      · exact z
      · cases z
    have hlen : (t.map (eP kd g)).length = vs.length := by rw [List.length_map, hk.len, eTm_len]
    refine ⟨l, od, vs, rfl, hl (Same.refl F1) g1.st, q _ _ _ F1 H1 g1 (by rw [hlen]; exact walk_items) (fun F2 W2 H2 e2 w2 => hl e2 w2) fun j F2 W2 H2 H3 x d e2 w2 y hd => ?_⟩
    rw [List.getElem?_map, Option.map_eq_some_iff] at hd
    obtain ⟨pr, hp, rfl⟩ := hd
    obtain ⟨u, hu, ru⟩ := repK_at ke hk j pr hp
    exact pair_yield w2 y (fun v hv => by
      rw [hu] at hv; cases hv
      exact ke.of F2 pr.1) fun v hv => by
      rw [hu] at hv; cases hv
      exact (ru.mono g1.ex).mono e2)
/-! ### signs of a text -/
def eSg (c : Nat) : D := .str ⟨#[c]⟩
def sgAt (z : Str) (i : Int) : Nat := (atI z.cps.toList i).getD 0
theorem ev_sg {z : Str} (ha : EvS X a σ F W (.str z) W1) (hb : EvS X b σ F W1 (.int i) W2) (hz : z.length ≤ sizeLine) (hx : (atI z.cps.toList i).isSome = true) (hs : ∀ v i, subscripted b false v i = operate [v, i] (getItem v i) := by intro _ _; rfl) : EvS X (.Subscript a b pos) σ F W (eSg (sgAt z i)) W2 := fun H w Q q =>
  tm_of (pe_ix ix_str pe_tm pe_tm hs) (ha H w _ fun v F1 H1 g1 r => (hb.mono g1.ex).then g1 fun v2 F2 H2 g2 g02 r2 => by
    cases r; cases r2
    obtain ⟨c, hc⟩ := Option.isSome_iff_exists.mp hx
    refine ⟨z, i, c, rfl, rfl, hz, hc, q _ F2 H2 g02 ?_⟩
    unfold sgAt; rw [hc]; exact .str _)
theorem cm_sgIn {c : Nat} {z : Str} : CmpR X .In F W (eSg c) (.str z) (decide (c ∈ z.cps.toList)) := ⟨_, op_inS, fun v1 v2 F1 H1 _ r1 r2 w Q q => by
  cases r1; cases r2
  exact ⟨c, z, rfl, rfl, q _ F1 H1 (Go.refl w) (.bl _)⟩⟩
theorem cm_sgNi {c : Nat} {z : Str} : CmpR X .NotIn F W (eSg c) (.str z) (!decide (c ∈ z.cps.toList)) := ⟨_, op_notInS, fun v1 v2 F1 H1 _ r1 r2 w Q q => by
  cases r1; cases r2
  exact ⟨c, z, rfl, rfl, q _ F1 H1 (Go.refl w) (.bl _)⟩⟩
theorem ei_sg {z : Str} (h : EvS X e σ F W (.str z) W1) : EvI X tg e σ F W (z.cps.toList.map eSg) W1 := fun H w R q =>
  tmI_of (pi_str pe_tm) (h H w _ fun v F1 H1 g1 r => by
    cases r
    refine ⟨z, rfl, q _ _ _ F1 H1 g1 (by rw [List.length_map, Array.length_toList]; exact walk_str) (fun _ _ _ _ _ => trivial) fun j F2 W2 H2 H3 x d e2 w2 y hd => ?_⟩
    obtain ⟨rfl, c, hc, rfl⟩ := y
    rw [List.getElem?_map, Array.getElem?_toList, hc] at hd
    cases hd
    exact ⟨F2, Go.refl w2, .str _⟩)
/-! ### in an owned list -/
theorem cm_inW {α : Type} [DecidableEq α] {f : α → D} {k m : Nat} {x : α} {xs : List α} {l : Addr} {vs : List V} (hr : Room k X.A) (lw : Lw f m) (hw : W l = some (.lst vs)) (h : Reps F vs (xs.map f)) (hn : m ≤ 60 := by decide) : CmpR X .In F W (f x) (.ow l) (decide (x ∈ xs)) :=
  ⟨_, op_inP hr, fun v1 v2 F1 H1 e1 r1 r2 w Q q => by
    cases r2
    refine ⟨(f x).pd, D.pds (xs.map f), r1.dp w (lw.pl x), .inl (.lst (SqL.of (w.w l _ hw)) (Reps.dp w (h.mono e1) lw.pls)), D.pl_plain _ (lw.pl x), D.pls_plain _ lw.pls, Nat.le_trans (lw.dep x) hn, ?_⟩
    have e : ((D.pds (xs.map f)).any fun y => PyData.eqv y (f x).pd) = decide (x ∈ xs) := by rw [D.pds_map, List.any_map]; exact lw.any
    rw [if_neg Bool.false_ne_true, e]
    exact q _ F1 H1 (Go.refl w) (.bl _)⟩
theorem cm_niW {α : Type} [DecidableEq α] {f : α → D} {k m : Nat} {x : α} {xs : List α} {l : Addr} {vs : List V} (hr : Room k X.A) (lw : Lw f m) (hw : W l = some (.lst vs)) (h : Reps F vs (xs.map f)) (hn : m ≤ 60 := by decide) : CmpR X .NotIn F W (f x) (.ow l) (!decide (x ∈ xs)) :=
  ⟨_, op_niP hr, fun v1 v2 F1 H1 e1 r1 r2 w Q q => by
    cases r2
    refine ⟨(f x).pd, D.pds (xs.map f), r1.dp w (lw.pl x), .inl (.lst (SqL.of (w.w l _ hw)) (Reps.dp w (h.mono e1) lw.pls)), D.pl_plain _ (lw.pl x), D.pls_plain _ lw.pls, Nat.le_trans (lw.dep x) hn, ?_⟩
    have e : ((D.pds (xs.map f)).any fun y => PyData.eqv y (f x).pd) = decide (x ∈ xs) := by rw [D.pds_map, List.any_map]; exact lw.any
    rw [if_pos rfl, e]
    exact q _ F1 H1 (Go.refl w) (.bl _)⟩
end
end Z
set_option Elab.async false
set_option linter.all false
set_option maxRecDepth 100000
set_option maxHeartbeats 1000000
namespace Z
open PySem PySem.Spec PyProof.Rows L2
section
variable {X : Cx} {e a b c : Expr} {es : List Expr} {σ : L2.St} {F F1 W W1 W2 : Hp} {d d1 d2 : D} {ds : List D} {pos : Pos} {A : AE} {rest : List Stmt} {K : V → Hp → Hp → Prop}
/-- an expression, whatever follows -/
def EvC (X : Cx) (e : Expr) (σ : L2.St) (F W : Hp) (K : V → Hp → Hp → Prop) : Prop := ∀ H, Wd F W H → ∀ Q : VK, (∀ v F' W' H', Go F W H F' W' H' → K v F' W' → Q v H') → tmE X e σ H Q
theorem ec_S (h : EvS X e σ F W d W1) (k : ∀ v F1, Same F F1 → Rep F1 v d → K v F1 W1) : EvC X e σ F W K := fun H w Q q => h H w Q fun v F' H' g r => q v F' W1 H' g (k v F' g.ex r)
theorem ec_N (h : EvN X e σ F W ds W1) (k : ∀ p vs F1, Same F F1 → Reps F1 vs ds → W1 p = none → K (.ref p) F1 (upd W1 p (.lst vs))) : EvC X e σ F W K := fun H w Q q => h H w Q fun p vs F' H' g r wp fp => q _ F' _ H' g (k p vs F' g.ex r wp)
theorem ec_M {kvs : List (Key × D)} (h : EvM X e σ F W kvs W1) (k : ∀ p vs F1, Same F F1 → RepK F1 vs kvs → W1 p = none → K (.ref p) F1 (upd W1 p (.dK vs))) : EvC X e σ F W K := fun H w Q q => h H w Q fun p vs F' H' g r wp fp => q _ F' _ H' g (k p vs F' g.ex r wp)
theorem bl_par2C {i j : Nat} {x y : Str} {px py pt : Pos} {kt k2 pt2} (h : EvC X a σ F W fun v1 F1 W1 => EvC X b σ F1 W1 fun v2 F2 W2 => BlkS X rest ((σ.set i (some v1)).set j (some v2)) F2 W2 A) (hi : X.N[i]? = some x := by rfl) (hj : X.N[j]? = some y := by rfl) (hij : i ≠ j := by decide)
    (hx : X.env.scope.names.lookup x = some .local := by rfl) (hy : X.env.scope.names.lookup y = some .local := by rfl) (hw : swappedStores [.Tuple [.Name x px, .Name y py] kt pt] (.Tuple [a, b] k2 pt2) X.env = pure (some [x, y]) := by rfl)
    (hs : swapsWithSole [.Tuple [.Name x px, .Name y py] kt pt] (.Tuple [a, b] k2 pt2) pos.line X.env = pure false := by rfl) (hc : X.calm = true := by rfl) (hN : X.N.Nodup := by first | assumption | decide +kernel)
    (h1 : starEach [a, b] X.env = (false, eval a X.env) :: starEach [b] X.env := by rfl) (h2 : starEach [b] X.env = (false, eval b X.env) :: starEach [] X.env := by rfl) :
    BlkS X (.Assign [.Tuple [.Name x px, .Name y py] kt pt] (.Tuple [a, b] k2 pt2) pos :: rest) σ F W A := fun H w E ok =>
  tmB_of (pss_cons (ps_par hc hN hi hj hij hx hy (pa_cons pe_tm (pa_cons pe_tm pa_nil h2) h1) hw hs) pss_tm) (h H w _ fun v1 F1 W1 H1 g1 k1 => k1 H1 g1.st _ fun v2 F2 W2 H2 g2 k2 => ⟨v1, v2, rfl, k2.run ok (g1.trans g2)⟩)
theorem bl_par3C {i j l : Nat} {x y z : Str} {px py pz pt : Pos} {kt k2 pt2} (h : EvC X a σ F W fun v1 F1 W1 => EvC X b σ F1 W1 fun v2 F2 W2 => EvC X c σ F2 W2 fun v3 F3 W3 => BlkS X rest (((σ.set i (some v1)).set j (some v2)).set l (some v3)) F3 W3 A) (hi : X.N[i]? = some x := by rfl) (hj : X.N[j]? = some y := by rfl) (hl : X.N[l]? = some z := by rfl) (hij : i ≠ j := by decide) (hil : i ≠ l := by decide) (hjl : j ≠ l := by decide)
    (hx : X.env.scope.names.lookup x = some .local := by rfl) (hy : X.env.scope.names.lookup y = some .local := by rfl) (hz : X.env.scope.names.lookup z = some .local := by rfl) (hw : swappedStores [.Tuple [.Name x px, .Name y py, .Name z pz] kt pt] (.Tuple [a, b, c] k2 pt2) X.env = pure (some [x, y, z]) := by rfl)
    (hs : swapsWithSole [.Tuple [.Name x px, .Name y py, .Name z pz] kt pt] (.Tuple [a, b, c] k2 pt2) pos.line X.env = pure false := by rfl) (hc : X.calm = true := by rfl) (hN : X.N.Nodup := by first | assumption | decide +kernel)
    (h1 : starEach [a, b, c] X.env = (false, eval a X.env) :: starEach [b, c] X.env := by rfl) (h2 : starEach [b, c] X.env = (false, eval b X.env) :: starEach [c] X.env := by rfl) (h3 : starEach [c] X.env = (false, eval c X.env) :: starEach [] X.env := by rfl) :
    BlkS X (.Assign [.Tuple [.Name x px, .Name y py, .Name z pz] kt pt] (.Tuple [a, b, c] k2 pt2) pos :: rest) σ F W A := fun H w E ok =>
  tmB_of (pss_cons (ps_par3 hc hN hi hj hl hij hil hjl hx hy hz (pa_cons pe_tm (pa_cons pe_tm (pa_cons pe_tm pa_nil h3) h2) h1) hw hs) pss_tm)
    (h H w _ fun v1 F1 W1 H1 g1 k1 => k1 H1 g1.st _ fun v2 F2 W2 H2 g2 k2 => k2 H2 g2.st _ fun v3 F3 W3 H3 g3 k3 => ⟨v1, v2, v3, rfl, k3.run ok ((g1.trans g2).trans g3)⟩)
/-- by way of a tuple -/
theorem bl_asgTC {tg : Expr} (h : EvC X e σ F W fun v F1 W1 => TgT X tg v σ F1 W1 fun σ2 => BlkS X rest σ2 F1 W1 A) (hs : swapsWithSole [tg] e pos.line X.env = pure false := by rfl) (hw : swappedStores [tg] e X.env = pure none := by rfl)
    (h1 : (assignEach [tg] X.env).map (·.2) = [assign tg X.env] := by rfl) : BlkS X (.Assign [tg] e pos :: rest) σ F W A := fun H w E o =>
  tmB_of (pss_cons (ps_asg pe_tm pg_tm hs hw h1) pss_tm) (h H w _ fun v F' W' H' g k => k H' g.st _ fun σ2 q => q.run o g)
theorem ec_tup2 {x1} (h : EvC X a σ F W fun v1 F1 W1 => EvC X b σ F1 W1 fun v2 F2 W2 => ∀ t F3, Same F2 F3 → F3 t = some (.tup [v1, v2]) → K (.ref t) F3 W2)
    (h1 : starEach [a, b] X.env = (false, eval a X.env) :: starEach [b] X.env := by rfl) (h2 : starEach [b] X.env = (false, eval b X.env) :: starEach [] X.env := by rfl) : EvC X (.Tuple [a, b] x1 pos) σ F W K := fun H w Q q =>
  tm_of (pe_tup (pa_cons pe_tm (pa_cons pe_tm pa_nil h2) h1)) (h H w _ fun v1 F1 W1 H1 g1 k1 => k1 H1 g1.st _ fun v2 F2 W2 H2 g2 k2 => ⟨sz_ok (by simp), fun p hp => by
    have g := (g1.trans g2).trans (Go.new (o := .tup [v1, v2]) g2.st hp)
    exact q _ _ _ _ g (k2 p _ (Go.new g2.st hp).ex upd_same)⟩)
theorem ec_tup3 {x1} (h : EvC X a σ F W fun v1 F1 W1 => EvC X b σ F1 W1 fun v2 F2 W2 => EvC X c σ F2 W2 fun v3 F3 W3 => ∀ t F4, Same F3 F4 → F4 t = some (.tup [v1, v2, v3]) → K (.ref t) F4 W3)
    (h1 : starEach [a, b, c] X.env = (false, eval a X.env) :: starEach [b, c] X.env := by rfl) (h2 : starEach [b, c] X.env = (false, eval b X.env) :: starEach [c] X.env := by rfl) (h3 : starEach [c] X.env = (false, eval c X.env) :: starEach [] X.env := by rfl) : EvC X (.Tuple [a, b, c] x1 pos) σ F W K := fun H w Q q =>
  tm_of (pe_tup (pa_cons pe_tm (pa_cons pe_tm (pa_cons pe_tm pa_nil h3) h2) h1)) (h H w _ fun v1 F1 W1 H1 g1 k1 => k1 H1 g1.st _ fun v2 F2 W2 H2 g2 k2 => k2 H2 g2.st _ fun v3 F3 W3 H3 g3 k3 => ⟨sz_ok (by simp), fun p hp => by
    have g := ((g1.trans g2).trans g3).trans (Go.new (o := .tup [v1, v2, v3]) g3.st hp)
    exact q _ _ _ _ g (k3 p _ (Go.new g3.st hp).ex upd_same)⟩)
theorem rep_tup {t : Addr} {vs : List V} (h : F t = some (.tup vs)) (r : Reps F vs ds) (hz : ds.length ≤ 100000) : Rep F (.ref t) (.sq true ds) := .sq (t := true) h r hz
theorem bl_goes {rest : List Stmt} (k : BlkS X rest σ F W A) : BlkS X [] σ F W { A with nx := fun σ' F' W' => BlkS X rest σ' F' W' A } := bl_nil k
variable {tg iter : Expr} {body : List Stmt}
/-- for, the turns counted -/
theorem bl_forK {α S : Type} {xs : List α} {f : α → D} (hi : EvI X tg iter σ F W (xs.map f) W1) (st : S → α → S) (s0 : S) (J : Nat → S → L2.St → Hp → Hp → Prop) (h0 : ∀ F1, Same F F1 → J 0 s0 σ F1 W1)
    (hs : ∀ i x, xs[i]? = some x → x ∈ xs → ∀ s, ∀ σ' F1 W', Same F F1 → J i s σ' F1 W' → ∀ v F2, Same F1 F2 → Rep F2 v (f x) → TgT X tg v σ' F2 W' fun σ2 =>
      BlkS X body σ2 F2 W' { nx := J (i + 1) (st s x), rt := A.rt, bk := fun σ' F' W' => BlkS X rest σ' F' W' A, ct := J (i + 1) (st s x) })
    (hd : ∀ σ' F1 W', Same F F1 → J xs.length (xs.foldl st s0) σ' F1 W' → BlkS X rest σ' F1 W' A) (hc : X.calm = true := by rfl) (hp : PassesOwn (model X.prog X.w) X.A X.env X.xe := by exact PassesOwn.never) (hf : ∀ x, foldedSetIterable iter X.env x = pure x := by intro _; rfl) :
    BlkS X (.For tg iter body [] pos :: rest) σ F W A :=
  bl_for (n := xs.length) hi (by rw [List.length_map]) (fun i σ' F' W' => J i ((xs.take i).foldl st s0) σ' F' W') h0 (fun i d h σ' F1 W' e inv v F2 e2 r => by
    rw [List.getElem?_map, Option.map_eq_some_iff] at h
    obtain ⟨x, hx, rfl⟩ := h
    have e1 : (xs.take (i + 1)).foldl st s0 = st ((xs.take i).foldl st s0) x := by rw [List.take_add_one, hx, List.foldl_append]; rfl
    rw [e1]
    exact hs i x hx (List.mem_of_getElem? hx) _ σ' F1 W' e inv v F2 e2 r) (fun σ' F1 W' e inv => hd σ' F1 W' e (by rw [List.take_length] at inv; exact inv)) hc hp hf
def memB {α : Type} [DecidableEq α] (x : α) (xs : List α) : Bool := decide (x ∈ xs)
theorem memB_iff {α : Type} [DecidableEq α] {x : α} {xs : List α} : memB x xs = true ↔ x ∈ xs := by unfold memB; exact decide_eq_true_iff
theorem wipe_set {σ : L2.St} {i : Nat} {x : Option V} : ∀ {vs : List Nat}, i ∈ vs → wipe (σ.set i x) vs = wipe σ vs := by
  intro vs
  have comm : ∀ (τ : L2.St) (vs : List Nat), wipe (τ.set i none) vs = (wipe τ vs).set i none := by
    intro τ vs
    induction vs with
    | nil => rfl
    | cons v vs ih =>
      show (wipe (τ.set i none) vs).set v none = ((wipe τ vs).set v none).set i none
      rw [ih]
      by_cases e : v = i
      · rw [e]
      · exact List.set_comm _ _ (fun q => e q.symm)
  have abs : ∀ (vs : List Nat), i ∈ vs → ∀ (τ : L2.St), wipe (τ.set i x) vs = wipe τ vs := by
    intro vs
    induction vs with
    | nil => intro h; cases h
    | cons v vs ih =>
      intro h τ
      show (wipe (τ.set i x) vs).set v none = (wipe τ vs).set v none
      by_cases e : i ∈ vs
      · rw [ih e]
      · have ev : v = i := by
          rcases List.mem_cons.mp h with q | q
          · exact q.symm
          · exact absurd q e
        subst ev
        have ne : ∀ (ws : List Nat), v ∉ ws → ∀ (τ : L2.St), wipe (τ.set v x) ws = (wipe τ ws).set v x := by
          intro ws
          induction ws with
          | nil => intro _ τ; rfl
          | cons w ws ih2 =>
            intro hn τ
            show (wipe (τ.set v x) ws).set w none = ((wipe τ ws).set w none).set v x
            rw [ih2 (fun q => hn (List.mem_cons_of_mem _ q))]
            exact List.set_comm _ _ (fun q => hn (q ▸ List.mem_cons_self))
        rw [ne vs e, List.set_set]
  exact fun h => abs vs h σ
theorem wipe_wipe {σ : L2.St} {vs : List Nat} : wipe (wipe σ vs) vs = wipe σ vs := by
  have key : ∀ (ws vs : List Nat) (τ : L2.St), (∀ w ∈ ws, w ∈ vs) → wipe (wipe τ ws) vs = wipe τ vs := by
    intro ws
    induction ws with
    | nil => intro vs τ _; rfl
    | cons w ws ih =>
      intro vs τ h
      show wipe ((wipe τ ws).set w none) vs = _
      rw [wipe_set (h w List.mem_cons_self), ih vs τ fun q hq => h q (List.mem_cons_of_mem _ hq)]
  exact key vs vs σ fun _ h => h
/-! ### two owned cells -/
theorem upd2_at {p q : Addr} {o u : HO} (h : q ≠ p) : upd (upd W p o) q u p = some o := by rw [upd_ne (Ne.symm h), upd_same]
theorem upd2_put {p q : Addr} {o o' u : HO} (h : q ≠ p) : upd (upd (upd W p o) q u) p o' = upd (upd W p o') q u := by
  funext x
  by_cases e1 : x = p
  · subst e1; rw [upd_same, upd_ne (Ne.symm h), upd_same]
  · rw [upd_ne e1]
    by_cases e2 : x = q
    · subst e2; rw [upd_same, upd_same]
    · rw [upd_ne e2, upd_ne e2, upd_ne e1, upd_ne e1]
theorem upd_none {p q : Addr} {o : HO} (h : upd W p o q = none) : q ≠ p ∧ W q = none := by
  have e : q ≠ p := fun e => by rw [e, upd_same] at h; cases h
  exact ⟨e, by rw [upd_ne e] at h; exact h⟩
theorem none_upd {p q : Addr} {o : HO} (e : q ≠ p) (h : W q = none) : upd W p o q = none := by rw [upd_ne e]; exact h
end
end Z
set_option Elab.async false
set_option linter.all false
set_option maxRecDepth 100000
set_option maxHeartbeats 1000000
namespace B
open PySem PySem.Spec PyProof.Rows L2 Z
def clsS (s : Stmt) (i : Nat) : Stmt := match s with
  | .ClassDef _ _ _ b _ _ _ _ _ _ _ => b.getD i (.Pass ⟨0, 0, 0, 0⟩)
  | _ => .Pass ⟨0, 0, 0, 0⟩
def topS (i : Nat) : Stmt := PySem.Challenge.pw_storepages_k58_across_reads.main.body.getD i (.Pass ⟨0, 0, 0, 0⟩)
structure Txt (K : PySem.W.Frag) (mg : Str → Option Value) : Prop where
  isinstance : mg "isinstance" = none
  int : mg "int" = none
  bool : mg "bool" = none
  str : mg "str" = none
  len : mg "len" = none
  all : mg "all" = none
  any : mg "any" = none
  list : mg "list" = none
  tuple : mg "tuple" = none
  dict : mg "dict" = none
  sorted : mg "sorted" = none
  set : mg "set" = none
  enumerate : mg "enumerate" = none
  zip : mg "zip" = none
  range : mg "range" = none
  SMALL : ∃ t, mg "SMALL" = some (.str "abcdefghijklmnopqrstuvwxyz" t)
  FIGURES : ∃ t, mg "FIGURES" = some (.str "0123456789" t)
  MOST_NAME : ∃ t, mg "MOST_NAME" = some (.int 8 t)
  MOST_COMMITS : ∃ t, mg "MOST_COMMITS" = some (.int 30 t)
/-! events: a word, a commit, a page -/
abbrev Ev := Str × Int × Option Str
def evL (e : Ev) : List D := .str e.1 :: .int e.2.1 :: (e.2.2.map D.str).toList
def eEv (e : Ev) : D := .sq true (evL e)
def pgE (e : Ev) : Str := e.2.2.getD ""
def lenE (e : Ev) : Int := ((evL e).length : Int)
theorem oGet {α : Type} {x : Option α} {d : α} (h : x.isSome = true) : x = some (x.getD d) := by
  cases x with
  | none => simp at h
  | some y => rfl
theorem eO_get {α : Type} {f : α → D} {x : Option α} {d : α} (h : x.isSome = true) : eO f x = f (x.getD d) := by
  cases x with
  | none => simp at h
  | some y => rfl
theorem lw_ev : Lw eEv 1 := by
  refine ⟨fun x => ?_, fun x => ?_, fun x y => ?_⟩
  · obtain ⟨a, b, c⟩ := x; cases c <;> rfl
  · obtain ⟨a, b, c⟩ := x; cases c <;> exact (by decide : (1 : Nat) ≤ 1)
  · obtain ⟨a, b, c⟩ := x
    obtain ⟨a2, b2, c2⟩ := y
    have e1 : (D.str a).eqv (D.str a2) = decide (a = a2) := lw_str.eq a a2
    have e2 : (D.int b).eqv (D.int b2) = decide (b = b2) := lw_int.eq b b2
    cases c with
    | none => cases c2 with
      | none => show ((D.str a).eqv (D.str a2) && ((D.int b).eqv (D.int b2) && true)) = _; rw [e1, e2, Bool.eq_iff_iff]; simp
      | some p2 => show ((D.str a).eqv (D.str a2) && ((D.int b).eqv (D.int b2) && false)) = _; rw [Bool.eq_iff_iff]; simp
    | some p => cases c2 with
      | none => show ((D.str a).eqv (D.str a2) && ((D.int b).eqv (D.int b2) && false)) = _; rw [Bool.eq_iff_iff]; simp
      | some p2 =>
        have e3 : (D.str p).eqv (D.str p2) = decide (p = p2) := lw_str.eq p p2
        show ((D.str a).eqv (D.str a2) && ((D.int b).eqv (D.int b2) && ((D.str p).eqv (D.str p2) && true))) = _
        rw [e1, e2, e3, Bool.eq_iff_iff]; simp
section
variable {X : Cx} {F W W1 W2 W3 : Hp} {σ : L2.St} {a b c f : Expr} {e : Ev} {n i : Int} {w p : Str} {pos p2 pe : Pos} {kk : Nat}
theorem at_e0 (e : Ev) : atI (evL e) 0 = some (.str e.1) := by obtain ⟨a, b, c⟩ := e; cases c <;> rfl
theorem at_e1 (e : Ev) : atI (evL e) 1 = some (.int e.2.1) := by obtain ⟨a, b, c⟩ := e; cases c <;> rfl
theorem at_e2 (e : Ev) (h : e.2.2.isSome = true) : atI (evL e) 2 = some (.str (pgE e)) := by
  obtain ⟨a, b, c⟩ := e
  cases c with
  | none => simp at h
  | some p => rfl
theorem ev_e0 (ha : EvS X a σ F W (eEv e) W1) (hb : EvS X b σ F W1 (.int 0) W2) (hs : ∀ v i, subscripted b false v i = operate [v, i] (getItem v i) := by intro _ _; rfl) : EvS X (.Subscript a b pos) σ F W (.str e.1) W2 := ev_ixD ha hb (at_e0 e) hs
theorem ev_e1 (ha : EvS X a σ F W (eEv e) W1) (hb : EvS X b σ F W1 (.int 1) W2) (hs : ∀ v i, subscripted b false v i = operate [v, i] (getItem v i) := by intro _ _; rfl) : EvS X (.Subscript a b pos) σ F W (.int e.2.1) W2 := ev_ixD ha hb (at_e1 e) hs
theorem ev_e2 (ha : EvS X a σ F W (eEv e) W1) (hb : EvS X b σ F W1 (.int 2) W2) (h : e.2.2.isSome = true) (hs : ∀ v i, subscripted b false v i = operate [v, i] (getItem v i) := by intro _ _; rfl) : EvS X (.Subscript a b pos) σ F W (.str (pgE e)) W2 := ev_ixD ha hb (at_e2 e h) hs
theorem eEv_id (e : Ev) : eEv e = eR true id (evL e) := by unfold eEv eR; rw [List.map_id]
theorem ev_eHd (ha : EvS X a σ F W (eEv e) W1) (hh : EvO X f σ F W1 (some 2) W2) : EvS X (.Subscript a (.Slice none f none p2) pos) σ F W (eEv (e.1, e.2.1, none)) W2 :=
  ev_is (ev_sl (f := id) (xs := evL e) (ev_is ha (eEv_id e)) eo_none hh) (by obtain ⟨a, b, c⟩ := e; cases c <;> rfl)
theorem ev_eTl (ha : EvS X a σ F W (eEv e) W1) (hl : EvO X f σ F W1 (some 2) W2) : EvS X (.Subscript a (.Slice f none none p2) pos) σ F W (eR true D.str e.2.2.toList) W2 :=
  ev_is (ev_sl (f := id) (xs := evL e) (ev_is ha (eEv_id e)) hl eo_none) (by obtain ⟨a, b, c⟩ := e; cases c <;> rfl)
theorem ev_eCat {q : Option Str} (ha : EvS X a σ F W (.str w) W1) (hb : EvS X b σ F W1 (.int n) W2) (hc : EvS X c σ F W2 (eR true D.str q.toList) W3) (h1 : starEach [a, b] X.env = (false, eval a X.env) :: starEach [b] X.env := by rfl) (h2 : starEach [b] X.env = (false, eval b X.env) :: starEach [] X.env := by rfl) :
    EvS X (.BinOp (.Tuple [a, b] kk pe) .Add c pos) σ F W (eEv (w, n, q)) W3 :=
  ev_is (ev_catT (ev_tup (ea_cons ha (ea_cons hb ea_nil h2) h1) (by simp)) hc (by simp) (by cases q <;> simp)) (by cases q <;> rfl)
theorem ev_e2t (ha : EvS X a σ F W (.str w) W1) (hb : EvS X b σ F W1 (.int n) W2) (h1 : starEach [a, b] X.env = (false, eval a X.env) :: starEach [b] X.env := by rfl) (h2 : starEach [b] X.env = (false, eval b X.env) :: starEach [] X.env := by rfl) : EvS X (.Tuple [a, b] kk pos) σ F W (eEv (w, n, none)) W2 :=
  ev_is (ev_tup (ea_cons ha (ea_cons hb ea_nil h2) h1) (by simp)) rfl
theorem ev_eLen {m : Pos} (hm : X.mg "len" = none) (ha : EvS X a σ F W (eEv e) W1) (hg : Gl X "len" := by rfl) (h1 : starEach [a] X.env = (false, eval a X.env) :: starEach [] X.env := by rfl) (hpl : (backTo pos (starEach [] X.env)).any (·.1) = false := by rfl) : EvS X (.Call (.Name "len" m) [a] [] pos) σ F W (.int (lenE e)) W1 :=
  ev_blt hm cl_len (ea_cons ha ea_nil h1) (by decide +kernel) hg (by decide) (by decide) h1 hpl
end
/-! right rows of events -/
def isEnd (e : Ev) : Bool := decide (e.1 ∈ (["answer", "stop"] : List Str))
def gdE (e : Ev) : Prop := (e.1 = "answer" ∧ e.2.2 = none) ∨ (e.1 = "stop" ∧ e.2.2 = none) ∨ ((e.1 = "read" ∨ e.1 = "write") ∧ (e.2.2 = some "a" ∨ e.2.2 = some "b"))
def Ok (evs : List Ev) : Prop := evs.length ≤ 30 ∧ (∀ e ∈ evs, gdE e) ∧ evs.Pairwise (fun a b => isEnd a = true → b.2.1 ≠ a.2.1)
def endsOf (evs : List Ev) : List Int := (evs.filter isEnd).map (·.2.1)
section
variable {P : Program} {w : World} {K : PySem.W.Frag} {mg : Str → Option Value} {base : Heap}

abbrev s8 : Stmt := topS 8
theorem sc8 : FnScope ["thing"] ["thing"] (defScope s8) := ⟨rfl, rfl, rfl, by decide +kernel, rfl, by decide +kernel, by decide +kernel⟩
def r_is_integer : List D → D → Prop := fun ds d => ∃ i : Int, ds = [.int i] ∧ d = .bl true
theorem d_is_integer (T : Txt K mg) {f : Addr} {fd : FuncData} (Fu : Fun K "is_integer" "is_integer" s8 f fd) : FnOk P w K mg base CX0 1 f fd ["thing"] (spG (relP r_is_integer)) := by
  refine fn_ok Fu sc8 (fun ds F W d W' h => by obtain ⟨⟨i, rfl, _⟩, _⟩ := h; rfl) (fun cdv A outer s H E hr ds W d W' vs F h hv => ?_)
  obtain ⟨⟨i, rfl, rfl⟩, rfl⟩ := h
  cases hv with | cons h_thing hv => ?_
  cases hv
  exact bl_ret (ev_and (ev_isi (U := "int") (q := true) T.isinstance T.int (ev_var (i := 0) rfl h_thing) rfl (by decide +kernel) (by decide +kernel)) (fun h1 => ev_bop1 (ev_not (ev_isi (U := "bool") (q := false) T.isinstance T.bool (ev_var (i := 0) rfl h_thing) rfl (by decide +kernel) (by decide +kernel))))) ⟨rfl, rfl⟩
abbrev s9 : Stmt := topS 9
theorem sc9 : FnScope ["thing"] ["thing"] (defScope s9) := ⟨rfl, rfl, rfl, by decide +kernel, rfl, by decide +kernel, by decide +kernel⟩
def r_is_row : List D → D → Prop := fun ds d => ∃ (t : Bool) (xs : List D), ds = [.sq t xs] ∧ d = .bl true
theorem d_is_row (T : Txt K mg) {f : Addr} {fd : FuncData} (Fu : Fun K "is_row" "is_row" s9 f fd) : FnOk P w K mg base CX0 1 f fd ["thing"] (spG (relP r_is_row)) := by
  refine fn_ok Fu sc9 (fun ds F W d W' h => by obtain ⟨⟨_, _, rfl, _⟩, _⟩ := h; rfl) (fun cdv A outer s H E hr ds W d W' vs F h hv => ?_)
  obtain ⟨⟨t, xs, rfl, rfl⟩, rfl⟩ := h
  cases hv with | @cons v_thing _ _ _ h_thing hv => ?_
  cases hv
  have key : ∀ {T1 : String} {q1 q2 : Bool}, (D.sq t xs).ty = some T1 → kitB T1 "list" = some q1 → kitB T1 "tuple" = some q2 → (q1 || q2) = true → BlkS (cxOf CX0 P w K mg base ["thing"] "is_row" (defScope s9) f cdv A outer s H E).nox (defBody s9) (L2.start ["thing"] [v_thing]) F W' { nx := fun _ _ W2 => D.bl true = .non ∧ W2 = W', rt := fun d' W2 => d' = .bl true ∧ W2 = W' } := by
    intro T1 q1 q2 h3 h4 h5 h6
    exact bl_ret (ev_isi2 (U := "list") (U2 := "tuple") T.isinstance T.list T.tuple (ev_var (i := 0) rfl h_thing) h3 h4 h5 (by decide +kernel) (by decide +kernel)) ⟨by rw [h6], rfl⟩
  cases t with
  | false => exact key (T1 := "list") (q1 := true) (q2 := false) rfl (by decide +kernel) (by decide +kernel) rfl
  | true => exact key (T1 := "tuple") (q1 := false) (q2 := true) rfl (by decide +kernel) (by decide +kernel) rfl

def m_is_name (thing : Str) : Bool := (if ((!true) || ((!((decide ((1 : Int) ≤ ((thing).length : Int))) && (decide (((thing).length : Int) ≤ (8 : Int))))) || (!(decide ((sgAt thing (0 : Int)) ∈ (("abcdefghijklmnopqrstuvwxyz" : Str)).cps.toList))))) = true then false else (((((thing).cps.toList).map fun x4 => ((decide (x4 ∈ (("abcdefghijklmnopqrstuvwxyz" : Str)).cps.toList)) || (decide (x4 ∈ (("0123456789" : Str)).cps.toList))))).all id))
def r_is_name : List D → D → Prop := fun ds d => ∃ (thing : Str), (thing = "a" ∨ thing = "b") ∧ ds = [D.str thing] ∧ d = D.bl (m_is_name thing)
abbrev s10 : Stmt := topS 10
abbrev N10 : List Str := ["thing", "sign"]
theorem sc10 : FnScope N10 ["thing"] (defScope s10) := ⟨rfl, rfl, rfl, by decide +kernel, rfl, by decide +kernel, by decide +kernel⟩
theorem d_is_name (T : Txt K mg)  {f : Addr} {fd : FuncData} (Fu : Fun K "is_name" "is_name" s10 f fd) : FnOk P w K mg base CX0 1 f fd ["thing"] (spG (relP r_is_name)) := by
  refine fn_ok Fu sc10 (fun ds F W d W' h => by obtain ⟨⟨_, _, rfl, _⟩, _⟩ := h; rfl) (fun cdv A outer s H E hr ds W d W' vs F h hv => ?_)
  have nd_ := sc10.nd
  obtain ⟨⟨thing, hp_, rfl, rfl⟩, rfl⟩ := h
  cases hv with | @cons v_thing _ _ _ h_thing hv => ?_
  cases hv
  cases h_thing
  have hz_ : thing.length = 1 := by rcases hp_ with rfl | rfl <;> rfl
  have hz2_ : thing.cps.toList.length ≤ 100000 := by rcases hp_ with rfl | rfl <;> decide
  have hz3_ : 100000 ≤ sizeLine := by decide
  refine bl_whenR (q := ((!true) || ((!((decide ((1 : Int) ≤ ((thing).length : Int))) && (decide (((thing).length : Int) ≤ (8 : Int))))) || (!(decide ((sgAt thing (0 : Int)) ∈ (("abcdefghijklmnopqrstuvwxyz" : Str)).cps.toList)))))) (f := D.bl) (x := false) (y := (((((thing).cps.toList).map fun x4 => ((decide (x4 ∈ (("abcdefghijklmnopqrstuvwxyz" : Str)).cps.toList)) || (decide (x4 ∈ (("0123456789" : Str)).cps.toList))))).all id)) (et_w (ew_or (et_not (et_val (ev_isi (U := "str") (q := true) T.isinstance T.str (ev_var (i := 0) rfl (.str _)) rfl (by decide +kernel) (by decide +kernel)))) (fun hb1 => (ew_or (et_not (et_ch ev_int (ev_blt T.len (cl_lenS (by omega)) (ea_cons (ev_var (i := 0) rfl (.str _)) ea_nil) rfl) cm_le (fun _ => (ev_gI T.MOST_NAME)) cm_le)) (fun hb2 => (ew_or1 (et_cm (ev_sg (ev_var (i := 0) rfl (.str _)) ev_int (by omega) (by rcases hp_ with rfl | rfl <;> rfl)) (ev_gS T.SMALL) cm_sgNi (by with_unfolding_all rfl)))))))) (fun hq3 => ?_) (fun hq3 => ?_)
  · exact bl_ret ev_bl ⟨rfl, rfl⟩
  · exact bl_ret (ev_blt T.all cl_all (ea_cons (ev_ofLc (lc_M (own := [("sign", 1)]) (f := eSg) (g := D.bl) (fun x4 => ((decide (x4 ∈ (("abcdefghijklmnopqrstuvwxyz" : Str)).cps.toList)) || (decide (x4 ∈ (("0123456789" : Str)).cps.toList)))) (ei_sg (ev_var (i := 0) rfl (.str _))) (by first | assumption | omega | (simp only [List.length_map, enumT_len, rg_len]; omega) | (simp; done) | (simp; omega)) (fun x4 hx5 v_ F1_ e_ r6 => by
      intro s_ H0_ C_ cl_ fp_
      refine tg_name (i := 1) ?_
      refine ⟨((wipe_set (by decide)).trans (wipe_wipe)), fun s_ H0_ C_ cl_ fp_ => ?_, fun ht_ s_ H0_ C_ cl_ fp_ => ?_⟩
      · exact ets_nil
      · exact (ev_or (ev_cm (ev_var (i := 1) rfl r6) (ev_gS T.SMALL) cm_sgIn (by with_unfolding_all rfl)) (fun hb7 => (ev_bop1 (ev_cm (ev_var (i := 1) rfl r6) (ev_gS T.FIGURES) cm_sgIn (by with_unfolding_all rfl))))))) (ok := blkOk_by (N := N10) (sc := defScope s10) (by decide +kernel))) ea_nil) rfl) ⟨rfl, rfl⟩
theorem name_ok {z : Str} (h : z = "a" ∨ z = "b") : m_is_name z = true := by rcases h with rfl | rfl <;> decide +kernel
theorem enum_take {α : Type} {xs : List α} {i : Nat} {x : Int × α} (h : (enumT xs)[i]? = some x) : xs.take (i + 1) = xs.take i ++ [x.2] ∧ x.1 = (i : Int) ∧ xs[i]? = some x.2 := by
  unfold enumT at h
  rw [List.getElem?_map, List.getElem?_zipIdx] at h
  cases e : xs[i]? with
  | none => rw [e] at h; simp at h
  | some y =>
    rw [e] at h
    simp at h
    subst h
    exact ⟨by rw [List.take_add_one, e]; rfl, rfl, rfl⟩
theorem ends_snoc (l : List Ev) (e : Ev) : endsOf (l ++ [e]) = if isEnd e = true then endsOf l ++ [e.2.1] else endsOf l := by
  unfold endsOf
  rw [List.filter_append, List.map_append]
  cases h : isEnd e with
  | true => rw [List.filter_cons_of_pos h, if_pos rfl]; rfl
  | false => rw [List.filter_cons_of_neg (by rw [h]; exact Bool.false_ne_true), if_neg Bool.false_ne_true]; simp
theorem ends_len (l : List Ev) : (endsOf l).length ≤ l.length := by unfold endsOf; rw [List.length_map]; exact List.length_filter_le _ _
theorem not_ended {evs : List Ev} (h : Ok evs) {i : Nat} {e : Ev} (he : evs[i]? = some e) : e.2.1 ∉ endsOf (evs.take i) := fun q => by
  unfold endsOf at q
  obtain ⟨b, hb, e1⟩ := List.mem_map.mp q
  obtain ⟨hb1, hb2⟩ := List.mem_filter.mp hb
  obtain ⟨j, hj, e2⟩ := List.mem_iff_getElem.mp hb1
  rw [List.length_take] at hj
  rw [List.getElem_take] at e2
  obtain ⟨hi, e3⟩ := List.getElem?_eq_some_iff.mp he
  have := List.pairwise_iff_getElem.mp h.2.2 j i (by omega) hi (by omega)
  rw [e2, e3] at this
  exact this hb2 e1.symm
theorem gd_len {e : Ev} (h : gdE e) : 2 ≤ lenE e ∧ (isEnd e = true → lenE e = 2 ∧ e.2.2 = none) ∧ (isEnd e = false → lenE e = 3 ∧ (e.1 = "read" ∨ e.1 = "write") ∧ e.2.2.isSome = true ∧ (pgE e = "a" ∨ pgE e = "b")) := by
  obtain ⟨a, b, c⟩ := e
  have r1 : ("answer" : Str) ∈ (["answer", "stop"] : List Str) := by simp
  have r2 : ("stop" : Str) ∈ (["answer", "stop"] : List Str) := by simp
  have r3 : ("read" : Str) ∉ (["answer", "stop"] : List Str) := by decide +kernel
  have r4 : ("write" : Str) ∉ (["answer", "stop"] : List Str) := by decide +kernel
  rcases h with ⟨h1, h2⟩ | ⟨h1, h2⟩ | ⟨h1, h2⟩
  · simp only at h1 h2; subst h1 h2; exact ⟨(by decide : (2 : Int) ≤ 2), fun _ => ⟨rfl, rfl⟩, fun q => absurd (decide_eq_true r1) (by unfold isEnd at q; rw [q]; decide)⟩
  · simp only at h1 h2; subst h1 h2; exact ⟨(by decide : (2 : Int) ≤ 2), fun _ => ⟨rfl, rfl⟩, fun q => absurd (decide_eq_true r2) (by unfold isEnd at q; rw [q]; decide)⟩
  · simp only at h1 h2
    refine ⟨by rcases h2 with rfl | rfl <;> exact (by decide : (2 : Int) ≤ 3), fun q => ?_, fun _ => ⟨by rcases h2 with rfl | rfl <;> rfl, h1, by rcases h2 with rfl | rfl <;> rfl, by rcases h2 with rfl | rfl; exact .inl rfl; exact .inr rfl⟩⟩
    have q := of_decide_eq_true q
    rcases h1 with rfl | rfl
    · exact absurd q r3
    · exact absurd q r4
theorem end_q {e : Ev} (h : gdE e) : (decide (e.1 ∈ (("answer" : Str) :: (("stop" : Str) :: ([] : List Str)))) && decide (lenE e = (2 : Int))) = isEnd e := by
  have hg := gd_len h
  unfold isEnd at hg ⊢
  cases q : decide (e.1 ∈ (["answer", "stop"] : List Str)) with
  | false => rfl
  | true => rw [(hg.2.1 q).1]; rfl
def r_check_schedule : List D → D → Prop := fun ds d => ∃ (t : Bool) (events : (List Ev)), (Ok events) ∧ ds = [(eR t eEv) events] ∧ d = .non
abbrev s14 : Stmt := topS 14
abbrev N14 : List Str := ["events", "ended", "at", "event"]
theorem sc14 : FnScope N14 ["events"] (defScope s14) := ⟨rfl, rfl, rfl, by decide +kernel, rfl, by decide +kernel, by decide +kernel⟩
theorem d_check_schedule (T : Txt K mg) (C_is_integer : FnD P w K mg base 1 "is_integer" ["thing"] (relP r_is_integer)) (C_is_row : FnD P w K mg base 1 "is_row" ["thing"] (relP r_is_row)) (C_is_name : FnD P w K mg base 1 "is_name" ["thing"] (relP r_is_name)) {f : Addr} {fd : FuncData} (Fu : Fun K "check_schedule" "check_schedule" s14 f fd) : FnOk P w K mg base CX0 2 f fd ["events"] (spG (relP r_check_schedule)) := by
  refine fn_ok Fu sc14 (fun ds F W d W' h => by obtain ⟨⟨_, _, _, rfl, _⟩, _⟩ := h; rfl) (fun cdv A outer s H E hr ds W d W' vs F h hv => ?_)
  have nd_ := sc14.nd
  obtain ⟨⟨t, events, hp_, rfl, rfl⟩, rfl⟩ := h
  cases hv with | @cons v_events _ _ _ h_events hv => ?_
  cases hv
  have hl_events := rep_len h_events
  refine bl_never (q := (!true)) (et_not (et_val (ev_call C_is_row (hr.mono (by decide)) (ea_cons (ev_var (i := 0) rfl h_events) ea_nil) ⟨_, _, rfl, rfl⟩))) (by first | assumption | (simp; done) | (simp; omega)) ?_
  refine bl_asgN (i := 1) (en_lst ea_nil (by simp)) (fun l_ended vs_ended F_ e2 h_ended wn_ended => ?_)
  replace h_ended : Reps F_ vs_ended ((([] : List Int)).map D.int) := h_ended
  replace h_events := h_events.mono e2
  refine bl_forK (xs := (enumT events)) (f := (eP D.int eEv)) (ei_enumR T.enumerate (ev_var (i := 0) rfl h_events)) (fun (s3 : (List Int)) (x4 : (Int × Ev)) => (if ((decide (((x4).2).1 ∈ (("answer" : Str) :: (("stop" : Str) :: ([] : List Str))))) && (decide ((lenE ((x4).2)) = (2 : Int)))) = true then ((s3 ++ [((x4).2).2.1])) else (s3))) (([] : List Int)) (fun i_ (s_ : (List Int)) σ_ F_ W_ => ∃ (o_at : Option V) (o_event : Option V) (vs_ended : List V), σ_ = [some v_events, some (.ref l_ended), o_at, o_event] ∧ Reps F_ vs_ended ((s_).map D.int) ∧ (s_ = endsOf (events.take i_)) ∧ W_ = (upd W' l_ended (.lst vs_ended))) (fun F_ e_ => ?_) (fun i8 x4 hi9 hx6 s3 σ_ F_ W_ e_ J_ v_ F2_ e2_ r7 => ?_) (fun σ_ F_ W_ e_ J_ => ?_)
  · replace h_events := h_events.mono e_
    replace h_ended := h_ended.mono e_
    exact ⟨_, _, _, rfl, h_ended, (by rfl), rfl⟩
  · replace h_events := h_events.mono e_
    replace h_ended := h_ended.mono e_
    obtain ⟨o_at, o_event, vs_ended, rfl, h_ended, inv5, rfl⟩ := J_
    replace h_events := h_events.mono e2_
    replace h_ended := h_ended.mono e2_
    have hx6m := enumT_mem hx6
    refine tg_tup (ds := [D.int ((x4).1), eEv ((x4).2)]) r7 (fun vs12 rr13 => ?_)
    cases rr13 with | @cons v_at _ _ _ h_at rr13 => ?_
    cases rr13 with | @cons v_event _ _ _ h_event rr13 => ?_
    cases rr13
    refine tgs_cons ?_
    cases h_at
    refine tg_name (i := 2) ?_
    refine tgs_cons ?_
    refine tg_name (i := 3) ?_
    refine tgs_nil ?_
    refine bl_never (q := ((!true) || ((decide ((lenE ((x4).2)) < (2 : Int))) || ((!true) || (decide (((x4).2).2.1 ∈ s3)))))) (et_w (ew_or (et_not (et_val (ev_isi (U := "tuple") (q := true) T.isinstance T.tuple (ev_var (i := 3) rfl h_event) rfl (by decide +kernel) (by decide +kernel)))) (fun hb14 => (ew_or (et_cm (ev_eLen T.len (ev_var (i := 3) rfl h_event)) ev_int cm_lt) (fun hb15 => (ew_or (et_not (et_val (ev_call C_is_integer (hr.mono (by decide)) (ea_cons (ev_e1 (ev_var (i := 3) rfl h_event) ev_int) ea_nil) ⟨_, rfl, rfl⟩))) (fun hb16 => (ew_or1 (et_cm (ev_e1 (ev_var (i := 3) rfl h_event) ev_int) (ev_var (i := 1) rfl (.ow _)) (cm_inW (f := D.int) (x := ((x4).2).2.1) (xs := s3) hr lw_int upd_same h_ended) (by with_unfolding_all rfl)))))))))) (by obtain ⟨he1, he2, he3⟩ := enum_take hi9; have hg_ := hp_.2.1 _ hx6m.2.2; have hg2 := gd_len hg_; have h3 := not_ended hp_ he3; rw [← inv5] at h3; have h4 : ¬ lenE (x4).2 < 2 := (by omega); simp [h3, h4]) ?_
    refine bl_if (q := ((decide (((x4).2).1 ∈ (("answer" : Str) :: (("stop" : Str) :: ([] : List Str))))) && (decide ((lenE ((x4).2)) = (2 : Int))))) (et_w (ew_and (et_cm (ev_e0 (ev_var (i := 3) rfl h_event) ev_int) (ev_tupR (("answer" : Str) :: (("stop" : Str) :: ([] : List Str))) (ea_consR (f := D.str) (x := ("answer" : Str)) ev_str (ea_consR (f := D.str) (x := ("stop" : Str)) ev_str (ea_nilR (f := D.str)))) (by simp [rg_len, enumT_len]; try omega)) (cm_in (f := D.str) (x := ((x4).2).1) (xs := (("answer" : Str) :: (("stop" : Str) :: ([] : List Str)))) hr lw_str) (by with_unfolding_all rfl)) (fun hb18 => (ew_and1 (et_cm (ev_eLen T.len (ev_var (i := 3) rfl h_event)) ev_int (cm_eq (f := D.int) (x := (lenE ((x4).2))) (y := (2 : Int)) hr lw_int)))))) (fun hq19 => ?_) (fun hq19 => ?_)
    · refine bl_app (ev_var (i := 1) rfl (.ow _)) (ev_e1 (ev_var (i := 3) rfl h_event) ev_int) upd_same (by rw [h_ended.length, List.length_map, inv5]; have := ends_len (events.take i8); rw [List.length_take] at this; have := hp_.1; omega) upd_same (fun v20 F_ e21 hv_ => ?_)
      replace h_events := h_events.mono e21
      replace h_ended := h_ended.mono e21
      replace h_event := h_event.mono e21
      replace h_ended := h_ended.snoc hv_
      rw [show ∀ (l : List Int) (y : Int), l.map D.int ++ [D.int y] = (l ++ [y]).map D.int from fun l y => by rw [List.map_append]; rfl] at h_ended
      rw [upd_upd]
      refine bl_goes ?_
      exact bl_nil (by simp only [hq19, Bool.false_eq_true, if_true, if_false]; exact ⟨_, _, _, rfl, h_ended, (by obtain ⟨he1, he2, he3⟩ := enum_take hi9; have hg_ := hp_.2.1 _ hx6m.2.2; have hg2 := gd_len hg_; rw [he1, ends_snoc, inv5, if_pos (by have q := hq19; rw [end_q hg_] at q; exact q)]), rfl⟩)
    · refine bl_never (q := ((!(decide (((x4).2).1 ∈ (("read" : Str) :: (("write" : Str) :: ([] : List Str)))))) || ((!decide ((lenE ((x4).2)) = (3 : Int))) || (!(m_is_name (pgE ((x4).2))))))) (et_w (ew_or (et_cm (ev_e0 (ev_var (i := 3) rfl h_event) ev_int) (ev_tupR (("read" : Str) :: (("write" : Str) :: ([] : List Str))) (ea_consR (f := D.str) (x := ("read" : Str)) ev_str (ea_consR (f := D.str) (x := ("write" : Str)) ev_str (ea_nilR (f := D.str)))) (by simp [rg_len, enumT_len]; try omega)) (cm_ni (f := D.str) (x := ((x4).2).1) (xs := (("read" : Str) :: (("write" : Str) :: ([] : List Str)))) hr lw_str) (by with_unfolding_all rfl)) (fun hb22 => (ew_or (et_cm (ev_eLen T.len (ev_var (i := 3) rfl h_event)) ev_int (cm_ne (f := D.int) (x := (lenE ((x4).2))) (y := (3 : Int)) hr lw_int)) (fun hb23 => (ew_or1 (et_not (et_val (ev_call C_is_name (hr.mono (by decide)) (ea_cons (ev_e2 (ev_var (i := 3) rfl h_event) ev_int (by obtain ⟨he1, he2, he3⟩ := enum_take hi9; have hg_ := hp_.2.1 _ hx6m.2.2; have hg2 := gd_len hg_; exact (hg2.2.2 (by have q := hq19; rw [end_q hg_] at q; exact q)).2.2.1)) ea_nil) (⟨(pgE ((x4).2)), (by obtain ⟨he1, he2, he3⟩ := enum_take hi9; have hg_ := hp_.2.1 _ hx6m.2.2; have hg2 := gd_len hg_; exact (hg2.2.2 (by have q := hq19; rw [end_q hg_] at q; exact q)).2.2.2), rfl, rfl⟩)))))))))) (by obtain ⟨he1, he2, he3⟩ := enum_take hi9; have hg_ := hp_.2.1 _ hx6m.2.2; have hg2 := gd_len hg_; have h5 := hg2.2.2 (by have q := hq19; rw [end_q hg_] at q; exact q); rw [name_ok h5.2.2.2, h5.1]; rcases h5.2.1 with q | q <;> rw [q] <;> decide +kernel) ?_
      refine bl_goes ?_
      exact bl_nil (by simp only [hq19, Bool.false_eq_true, if_true, if_false]; exact ⟨_, _, _, rfl, h_ended, (by obtain ⟨he1, he2, he3⟩ := enum_take hi9; have hg_ := hp_.2.1 _ hx6m.2.2; have hg2 := gd_len hg_; rw [he1, ends_snoc, inv5, if_neg (by rw [show isEnd (x4).2 = false from (by have q := hq19; rw [end_q hg_] at q; exact q)]; decide)]), rfl⟩)
  · replace h_events := h_events.mono e_
    replace h_ended := h_ended.mono e_
    obtain ⟨o_at, o_event, vs_ended, rfl, h_ended, inv5, rfl⟩ := J_
    refine bl_freeze (ds := ((((enumT events)).foldl (fun (s3 : (List Int)) (x4 : (Int × Ev)) => (if ((decide (((x4).2).1 ∈ (("answer" : Str) :: (("stop" : Str) :: ([] : List Str))))) && (decide ((lenE ((x4).2)) = (2 : Int)))) = true then ((s3 ++ [((x4).2).2.1])) else (s3))) (([] : List Int)))).map D.int) upd_same h_ended (by rw [List.length_map, inv5]; have := ends_len (events.take (enumT events).length); rw [List.length_take] at this; have := hp_.1; omega) (fun F_ e25 hf_ended => ?_)
    rw [del_upd wn_ended]
    replace h_events := h_events.mono e25
    replace h_ended : Rep F_ (.ref l_ended) (eR false D.int ((((enumT events)).foldl (fun (s3 : (List Int)) (x4 : (Int × Ev)) => (if ((decide (((x4).2).1 ∈ (("answer" : Str) :: (("stop" : Str) :: ([] : List Str))))) && (decide ((lenE ((x4).2)) = (2 : Int)))) = true then ((s3 ++ [((x4).2).2.1])) else (s3))) (([] : List Int))))) := hf_ended
    exact bl_nil ⟨rfl, rfl⟩
end
end B
set_option Elab.async false
set_option linter.all false
set_option maxRecDepth 100000
set_option maxHeartbeats 1000000
namespace B
open PySem PySem.Spec PyProof.Rows L2 Z
section
variable {P : Program} {w : World} {K : PySem.W.Frag} {mg : Str → Option Value} {base : Heap}

theorem flt_len {α : Type} (p : α → Bool) (l : List α) : (l.filter p).length ≤ l.length := List.length_filter_le _ _
theorem mem_cut {α : Type} {xs : List α} {l u : Option Int} {x : α} (h : x ∈ cutL xs l u) : x ∈ xs := List.mem_of_mem_drop (List.mem_of_mem_take h)
theorem cut_len {α : Type} (xs : List α) (l u : Option Int) : (cutL xs l u).length ≤ xs.length := by unfold cutL; rw [List.length_take, List.length_drop]; omega
theorem deed_gd {e : Ev} (hg : gdE e) (h : e.1 ∈ (("read" : Str) :: (("write" : Str) :: ([] : List Str)))) : e.2.2.isSome = true := by
  have q := gd_len hg
  have hn : isEnd e = false := by
    unfold isEnd
    rw [decide_eq_false_iff_not]
    intro h2
    have r3 : ("read" : Str) ∉ (["answer", "stop"] : List Str) := by decide +kernel
    have r4 : ("write" : Str) ∉ (["answer", "stop"] : List Str) := by decide +kernel
    rcases List.mem_cons.mp h with e1 | h
    · rw [e1] at h2; exact r3 h2
    rcases List.mem_cons.mp h with e1 | h
    · rw [e1] at h2; exact r4 h2
    · cases h
  exact (q.2.2 hn).2.2.1

theorem deeds_in {evs : List Ev} {names : List Int} {e : Ev} (h : e ∈ ((evs.filter fun x => (decide (x.1 ∈ (("read" : Str) :: (("write" : Str) :: ([] : List Str)))) && decide (x.2.1 ∈ names))).map fun x => x)) : e ∈ evs ∧ e.1 ∈ (("read" : Str) :: (("write" : Str) :: ([] : List Str))) ∧ e.2.1 ∈ names := by
  rw [List.map_id'] at h
  obtain ⟨h1, h2⟩ := List.mem_filter.mp h
  rw [Bool.and_eq_true, decide_eq_true_iff, decide_eq_true_iff] at h2
  exact ⟨h1, h2⟩
theorem deeds_len {evs : List Ev} {p : Ev → Bool} (h : Ok evs) : ((evs.filter p).map fun x => x).length ≤ 30 := by
  rw [List.length_map]; exact Nat.le_trans (List.length_filter_le _ _) h.1
def m_standing (events : (List Ev)) : (List Int) := (sset (((events).filter fun x5 => (!(decide ((x5).2.1 ∈ (((events).filter fun x1 => (decide ((x1).1 = ("stop" : Str)))).map fun x1 => (x1).2.1))))).map fun x5 => (x5).2.1))
def r_standing : List D → D → Prop := fun ds d => ∃ (t : Bool) (events : (List Ev)), (Ok events) ∧ ds = [(eR t eEv) events] ∧ d = (eR false D.int) (m_standing events)
abbrev s15 : Stmt := topS 15
abbrev N15 : List Str := ["events", "stopped", "event", "found"]
theorem sc15 : FnScope N15 ["events"] (defScope s15) := ⟨rfl, rfl, rfl, by decide +kernel, rfl, by decide +kernel, by decide +kernel⟩
theorem d_standing (T : Txt K mg)  {f : Addr} {fd : FuncData} (Fu : Fun K "standing" "standing" s15 f fd) : FnOk P w K mg base CX0 1 f fd ["events"] (spG (relP r_standing)) := by
  refine fn_ok Fu sc15 (fun ds F W d W' h => by obtain ⟨⟨_, _, _, rfl, _⟩, _⟩ := h; rfl) (fun cdv A outer s H E hr ds W d W' vs F h hv => ?_)
  have nd_ := sc15.nd
  obtain ⟨⟨t, events, hp_, rfl, rfl⟩, rfl⟩ := h
  cases hv with | @cons v_events _ _ _ h_events hv => ?_
  cases hv
  have hl_events := rep_len h_events
  refine bl_asg (i := 1) (ev_ofLc (lc_F (own := [("event", 2)]) (f := eEv) (g := D.int) (fun x1 => (decide ((x1).1 = ("stop" : Str)))) (fun x1 => (x1).2.1) (ei_row (ev_var (i := 0) rfl h_events)) (by first | exact rep_len h_events | assumption | omega | (simp only [List.length_map, enumT_len, rg_len]; omega) | (simp; done) | (simp; omega)) (fun x1 hx2 v_ F1_ e_ r3 => by
      replace h_events := h_events.mono e_
      intro s_ H0_ C_ cl_ fp_
      refine tg_name (i := 2) ?_
      refine ⟨((wipe_set (by decide)).trans (wipe_wipe)), fun s_ H0_ C_ cl_ fp_ => ?_, fun ht_ s_ H0_ C_ cl_ fp_ => ?_⟩
      · exact ets_one (et_cm (ev_e0 (ev_var (i := 2) rfl r3) ev_int) ev_str (cm_eq (f := D.str) (x := (x1).1) (y := ("stop" : Str)) hr lw_str))
      · exact (ev_e1 (ev_var (i := 2) rfl r3) ev_int))) (ok := blkOk_by (N := N15) (sc := defScope s15) (by decide +kernel))) (fun v_stopped F_ e4 h_stopped => ?_)
  have hl_stopped := rep_len h_stopped
  replace h_events := h_events.mono e4
  refine bl_asg (i := 3) (ev_sortset T.sorted T.set (ev_ofLc (lc_F (own := [("event", 2)]) (f := eEv) (g := D.int) (fun x5 => (!(decide ((x5).2.1 ∈ (((events).filter fun x1 => (decide ((x1).1 = ("stop" : Str)))).map fun x1 => (x1).2.1))))) (fun x5 => (x5).2.1) (ei_row (ev_var (i := 0) rfl h_events)) (by first | exact rep_len h_events | assumption | omega | (simp only [List.length_map, enumT_len, rg_len]; omega) | (simp; done) | (simp; omega)) (fun x5 hx6 v_ F1_ e_ r7 => by
      replace h_events := h_events.mono e_
      replace h_stopped := h_stopped.mono e_
      intro s_ H0_ C_ cl_ fp_
      refine tg_name (i := 2) ?_
      refine ⟨((wipe_set (by decide)).trans (wipe_wipe)), fun s_ H0_ C_ cl_ fp_ => ?_, fun ht_ s_ H0_ C_ cl_ fp_ => ?_⟩
      · exact ets_one (et_cm (ev_e1 (ev_var (i := 2) rfl r7) ev_int) (ev_var (i := 1) rfl h_stopped) (cm_ni (f := D.int) (x := (x5).2.1) (xs := (((events).filter fun x1 => (decide ((x1).1 = ("stop" : Str)))).map fun x1 => (x1).2.1)) hr lw_int) (by with_unfolding_all rfl))
      · exact (ev_e1 (ev_var (i := 2) rfl r7) ev_int))) (ok := blkOk_by (N := N15) (sc := defScope s15) (by decide +kernel))) (by rw [List.length_map]; refine Nat.lt_of_le_of_lt (List.length_filter_le _ _) ?_; have := hp_.1; omega)) (fun v_found F_ e8 h_found => ?_)
  have hl_found := rep_len h_found
  replace h_events := h_events.mono e8
  replace h_stopped := h_stopped.mono e8
  refine bl_never (q := (decide ((30 : Int) < (((sset (((events).filter fun x5 => (!(decide ((x5).2.1 ∈ (((events).filter fun x1 => (decide ((x1).1 = ("stop" : Str)))).map fun x1 => (x1).2.1))))).map fun x5 => (x5).2.1))).length : Int)))) (et_cm (ev_blt T.len cl_lenR (ea_cons (ev_var (i := 3) rfl h_found) ea_nil) rfl) (ev_gI T.MOST_COMMITS) cm_gt) (by rw [decide_eq_false_iff_not]; have h1 := sset_len (((events).filter fun x4 => (!(decide (((x4)).2.1 ∈ ((((events).filter fun x1 => (decide ((x1).1 = ("stop" : Str)))).map fun x1 => (x1).2.1)))))).map fun x4 => (x4).2.1); rw [List.length_map] at h1; have h2 := List.length_filter_le (fun x4 : Ev => (!(decide (((x4)).2.1 ∈ ((((events).filter fun x1 => (decide ((x1).1 = ("stop" : Str)))).map fun x1 => (x1).2.1)))))) events; have := hp_.1; omega) ?_
  exact bl_ret (ev_var (i := 3) rfl h_found) ⟨rfl, rfl⟩
def m_edges_of (events : (List Ev)) : (List (Int × Int)) := (((enumT (((events).filter fun x4 => ((decide ((x4).1 ∈ (("read" : Str) :: (("write" : Str) :: ([] : List Str))))) && (decide ((x4).2.1 ∈ (m_standing (events)))))).map fun x4 => x4))).foldl (fun (s9 : (List (Int × Int))) (x10 : (Int × Ev)) => ((((cutL (((events).filter fun x4 => ((decide ((x4).1 ∈ (("read" : Str) :: (("write" : Str) :: ([] : List Str))))) && (decide ((x4).2.1 ∈ (m_standing (events)))))).map fun x4 => x4) (some ((x10).1 + (1 : Int))) none)).foldl (fun (s20 : (List (Int × Int))) (x21 : Ev) => (if ((!decide (((x10).2).2.1 = (x21).2.1)) && ((decide ((pgE ((x10).2)) = (pgE (x21)))) && (decide (("write" : Str) ∈ (((x10).2).1 :: ((x21).1 :: ([] : List Str))))))) = true then (if (!(memB (((x10).2).2.1, (x21).2.1) s20)) = true then ((s20 ++ [(((x10).2).2.1, (x21).2.1)])) else (s20)) else (s20))) (s9)))) (([] : List (Int × Int))))
def r_edges_of : List D → D → Prop := fun ds d => ∃ (t : Bool) (events : (List Ev)), (Ok events) ∧ ds = [(eR t eEv) events] ∧ d = (eR false (eP D.int D.int)) (m_edges_of events)
abbrev s16 : Stmt := topS 16
abbrev N16 : List Str := ["events", "names", "found", "deeds", "event", "at", "one", "other"]
theorem sc16 : FnScope N16 ["events"] (defScope s16) := ⟨rfl, rfl, rfl, by decide +kernel, rfl, by decide +kernel, by decide +kernel⟩
theorem d_edges_of (T : Txt K mg) (C_standing : FnD P w K mg base 1 "standing" ["events"] (relP r_standing)) {f : Addr} {fd : FuncData} (Fu : Fun K "edges_of" "edges_of" s16 f fd) : FnOk P w K mg base CX0 2 f fd ["events"] (spG (relP r_edges_of)) := by
  refine fn_ok Fu sc16 (fun ds F W d W' h => by obtain ⟨⟨_, _, _, rfl, _⟩, _⟩ := h; rfl) (fun cdv A outer s H E hr ds W d W' vs F h hv => ?_)
  have nd_ := sc16.nd
  obtain ⟨⟨t, events, hp_, rfl, rfl⟩, rfl⟩ := h
  cases hv with | @cons v_events _ _ _ h_events hv => ?_
  cases hv
  have hl_events := rep_len h_events
  refine bl_asgTC (ec_tup2 ?_)
  refine ec_S (ev_call C_standing (hr.mono (by decide)) (ea_cons (ev_var (i := 0) rfl h_events) ea_nil) (⟨t, (events), (by first | assumption | exact hp_.1 | omega), rfl, rfl⟩)) (fun v_names F_ e1 h_names => ?_)
  replace h_events := h_events.mono e1
  refine ec_N (en_lst ea_nil (by simp)) (fun l_found vs_found F_ e2 h_found wn_found => ?_)
  replace h_events := h_events.mono e2
  replace h_names := h_names.mono e2
  replace h_found : Reps F_ vs_found (([] : List (Int × Int)).map (eP D.int D.int)) := h_found
  intro t_ F_ e3 ht_
  replace h_events := h_events.mono e3
  replace h_names := h_names.mono e3
  replace h_found := h_found.mono e3
  refine tg_tup (ds := [(eR false D.int) ((m_standing (events))), D.ow l_found]) (rep_tup ht_ (.cons h_names (.cons (.ow _) .nil)) (by simp)) (fun vs_ rr_ => ?_)
  cases rr_ with | @cons v_names _ _ _ q_names rr_ => ?_
  cases rr_ with | @cons v_found _ _ _ q_found rr_ => ?_
  cases rr_
  clear h_names
  have h_names := q_names
  have hl_names := rep_len h_names
  cases q_found
  refine tgs_cons (tg_name (i := 1) ?_)
  refine tgs_cons (tg_name (i := 2) ?_)
  refine tgs_nil ?_
  refine bl_asgLc (i := 3) (lc_F (own := [("event", 4)]) (f := eEv) (g := eEv) (fun x4 => ((decide ((x4).1 ∈ (("read" : Str) :: (("write" : Str) :: ([] : List Str))))) && (decide ((x4).2.1 ∈ (m_standing (events)))))) (fun x4 => x4) (ei_row (ev_var (i := 0) rfl h_events)) (by first | exact rep_len h_events | assumption | omega | (simp only [List.length_map, enumT_len, rg_len]; omega) | (simp; done) | (simp; omega)) (fun x4 hx5 v_ F1_ e_ r6 => by
      replace h_events := h_events.mono e_
      replace h_names := h_names.mono e_
      replace h_found := h_found.mono e_
      intro s_ H0_ C_ cl_ fp_
      refine tg_name (i := 4) ?_
      refine ⟨((wipe_set (by decide)).trans (wipe_wipe)), fun s_ H0_ C_ cl_ fp_ => ?_, fun ht_ s_ H0_ C_ cl_ fp_ => ?_⟩
      · exact ets_one (et_w (ew_and (et_cm (ev_e0 (ev_var (i := 4) rfl r6) ev_int) (ev_tupR (("read" : Str) :: (("write" : Str) :: ([] : List Str))) (ea_consR (f := D.str) (x := ("read" : Str)) ev_str (ea_consR (f := D.str) (x := ("write" : Str)) ev_str (ea_nilR (f := D.str)))) (by simp [rg_len, enumT_len]; try omega)) (cm_in (f := D.str) (x := (x4).1) (xs := (("read" : Str) :: (("write" : Str) :: ([] : List Str)))) hr lw_str) (by with_unfolding_all rfl)) (fun hb7 => (ew_and1 (et_cm (ev_e1 (ev_var (i := 4) rfl r6) ev_int) (ev_var (i := 1) rfl h_names) (cm_in (f := D.int) (x := (x4).2.1) (xs := (m_standing (events))) hr lw_int) (by with_unfolding_all rfl))))))
      · exact (ev_var (i := 4) rfl r6))) (ok := blkOk_by (N := N16) (sc := defScope s16) (by decide +kernel)) (fun v_deeds F_ e8 h_deeds => ?_)
  have hl_deeds := rep_len h_deeds
  replace h_events := h_events.mono e8
  replace h_names := h_names.mono e8
  replace h_found := h_found.mono e8
  refine bl_forK (xs := (enumT (((events).filter fun x4 => ((decide ((x4).1 ∈ (("read" : Str) :: (("write" : Str) :: ([] : List Str))))) && (decide ((x4).2.1 ∈ (m_standing (events)))))).map fun x4 => x4))) (f := (eP D.int eEv)) (ei_enumR T.enumerate (ev_var (i := 3) rfl h_deeds)) (fun (s9 : (List (Int × Int))) (x10 : (Int × Ev)) => ((((cutL (((events).filter fun x4 => ((decide ((x4).1 ∈ (("read" : Str) :: (("write" : Str) :: ([] : List Str))))) && (decide ((x4).2.1 ∈ (m_standing (events)))))).map fun x4 => x4) (some ((x10).1 + (1 : Int))) none)).foldl (fun (s20 : (List (Int × Int))) (x21 : Ev) => (if ((!decide (((x10).2).2.1 = (x21).2.1)) && ((decide ((pgE ((x10).2)) = (pgE (x21)))) && (decide (("write" : Str) ∈ (((x10).2).1 :: ((x21).1 :: ([] : List Str))))))) = true then (if (!(memB (((x10).2).2.1, (x21).2.1) s20)) = true then ((s20 ++ [(((x10).2).2.1, (x21).2.1)])) else (s20)) else (s20))) (s9)))) (([] : List (Int × Int))) (fun i_ (s_ : (List (Int × Int))) σ_ F_ W_ => ∃ (o_at : Option V) (o_one : Option V) (o_other : Option V) (vs_found : List V), σ_ = [some v_events, some v_names, some (.ref l_found), some v_deeds, none, o_at, o_one, o_other] ∧ Reps F_ vs_found ((s_).map (eP D.int D.int)) ∧ (s_.length ≤ 100 * i_) ∧ W_ = (upd W' l_found (.lst vs_found))) (fun F_ e_ => ?_) (fun i14 x10 hi15 hx12 s9 σ_ F_ W_ e_ J_ v_ F2_ e2_ r13 => ?_) (fun σ_ F_ W_ e_ J_ => ?_)
  · replace h_events := h_events.mono e_
    replace h_names := h_names.mono e_
    replace h_found := h_found.mono e_
    replace h_deeds := h_deeds.mono e_
    exact ⟨_, _, _, _, rfl, h_found, (by first | omega | (simp; done)), rfl⟩
  · replace h_events := h_events.mono e_
    replace h_names := h_names.mono e_
    replace h_found := h_found.mono e_
    replace h_deeds := h_deeds.mono e_
    obtain ⟨o_at, o_one, o_other, vs_found, rfl, h_found, inv11, rfl⟩ := J_
    replace h_events := h_events.mono e2_
    replace h_names := h_names.mono e2_
    replace h_found := h_found.mono e2_
    replace h_deeds := h_deeds.mono e2_
    have hx12m := enumT_mem hx12
    refine tg_tup (ds := [D.int ((x10).1), eEv ((x10).2)]) r13 (fun vs18 rr19 => ?_)
    cases rr19 with | @cons v_at _ _ _ h_at rr19 => ?_
    cases rr19 with | @cons v_one _ _ _ h_one rr19 => ?_
    cases rr19
    refine tgs_cons ?_
    cases h_at
    refine tg_name (i := 5) ?_
    refine tgs_cons ?_
    refine tg_name (i := 6) ?_
    refine tgs_nil ?_
    refine bl_forK (xs := (cutL (((events).filter fun x4 => ((decide ((x4).1 ∈ (("read" : Str) :: (("write" : Str) :: ([] : List Str))))) && (decide ((x4).2.1 ∈ (m_standing (events)))))).map fun x4 => x4) (some ((x10).1 + (1 : Int))) none)) (f := eEv) (ei_row (ev_sl (l := (some ((x10).1 + (1 : Int)))) (u := none) (ev_var (i := 3) rfl h_deeds) (eo_some (ev_add (ev_var (i := 5) rfl (.int _)) ev_int)) eo_none)) (fun (s20 : (List (Int × Int))) (x21 : Ev) => (if ((!decide (((x10).2).2.1 = (x21).2.1)) && ((decide ((pgE ((x10).2)) = (pgE (x21)))) && (decide (("write" : Str) ∈ (((x10).2).1 :: ((x21).1 :: ([] : List Str))))))) = true then (if (!(memB (((x10).2).2.1, (x21).2.1) s20)) = true then ((s20 ++ [(((x10).2).2.1, (x21).2.1)])) else (s20)) else (s20))) (s9) (fun i_ (s_ : (List (Int × Int))) σ_ F_ W_ => ∃ (o_other : Option V) (vs_found : List V), σ_ = [some v_events, some v_names, some (.ref l_found), some v_deeds, none, some (.int (x10).1), some v_one, o_other] ∧ Reps F_ vs_found ((s_).map (eP D.int D.int)) ∧ (s_.length ≤ ((s9)).length + i_) ∧ W_ = (upd W' l_found (.lst vs_found))) (fun F_ e_ => ?_) (fun i25 x21 hi26 hx23 s20 σ_ F_ W_ e_ J_ v_ F2_ e2_ r24 => ?_) (fun σ_ F_ W_ e_ J_ => ?_)
    · replace h_events := h_events.mono e_
      replace h_names := h_names.mono e_
      replace h_found := h_found.mono e_
      replace h_deeds := h_deeds.mono e_
      replace h_one := h_one.mono e_
      exact ⟨_, _, rfl, h_found, (by first | omega | (simp; done)), rfl⟩
    · replace h_events := h_events.mono e_
      replace h_names := h_names.mono e_
      replace h_found := h_found.mono e_
      replace h_deeds := h_deeds.mono e_
      replace h_one := h_one.mono e_
      obtain ⟨o_other, vs_found, rfl, h_found, inv22, rfl⟩ := J_
      replace h_events := h_events.mono e2_
      replace h_names := h_names.mono e2_
      replace h_found := h_found.mono e2_
      replace h_deeds := h_deeds.mono e2_
      replace h_one := h_one.mono e2_
      refine tg_name (i := 7) ?_
      refine bl_when (q := ((!decide (((x10).2).2.1 = (x21).2.1)) && ((decide ((pgE ((x10).2)) = (pgE (x21)))) && (decide (("write" : Str) ∈ (((x10).2).1 :: ((x21).1 :: ([] : List Str)))))))) (et_w (ew_and (et_cm (ev_e1 (ev_var (i := 6) rfl h_one) ev_int) (ev_e1 (ev_var (i := 7) rfl r24) ev_int) (cm_ne (f := D.int) (x := ((x10).2).2.1) (y := (x21).2.1) hr lw_int)) (fun hb27 => (ew_and (et_cm (ev_e2 (ev_var (i := 6) rfl h_one) ev_int (by have q := deeds_in hx12m.2.2; exact deed_gd (hp_.2.1 _ q.1) q.2.1)) (ev_e2 (ev_var (i := 7) rfl r24) ev_int (by have q := deeds_in (mem_cut hx23); exact deed_gd (hp_.2.1 _ q.1) q.2.1)) (cm_eq (f := D.str) (x := (pgE ((x10).2))) (y := (pgE (x21))) hr lw_str)) (fun hb28 => (ew_and1 (et_cm ev_str (ev_tupR (((x10).2).1 :: ((x21).1 :: ([] : List Str))) (ea_consR (f := D.str) (x := ((x10).2).1) (ev_e0 (ev_var (i := 6) rfl h_one) ev_int) (ea_consR (f := D.str) (x := (x21).1) (ev_e0 (ev_var (i := 7) rfl r24) ev_int) (ea_nilR (f := D.str)))) (by simp [rg_len, enumT_len]; try omega)) (cm_in (f := D.str) (x := ("write" : Str)) (xs := (((x10).2).1 :: ((x21).1 :: ([] : List Str)))) hr lw_str) (by with_unfolding_all rfl)))))))) (fun hq29 => ?_) (fun hq29 => ?_)
      · refine bl_when (q := (!(memB (((x10).2).2.1, (x21).2.1) s20))) (et_cm (ev_is (d1 := (eP D.int D.int) (((x10).2).2.1, (x21).2.1)) (ev_tup (ea_cons (ev_e1 (ev_var (i := 6) rfl h_one) ev_int) (ea_cons (ev_e1 (ev_var (i := 7) rfl r24) ev_int) ea_nil)) (by simp)) rfl) (ev_var (i := 2) rfl (.ow _)) (cm_niW (f := (eP D.int D.int)) (x := (((x10).2).2.1, (x21).2.1)) (xs := s20) hr (Lw.pairM lw_int lw_int) upd_same h_found) (by with_unfolding_all rfl)) (fun hq30 => ?_) (fun hq30 => ?_)
        · refine bl_app (ev_var (i := 2) rfl (.ow _)) (ev_is (d1 := (eP D.int D.int) (((x10).2).2.1, (x21).2.1)) (ev_tup (ea_cons (ev_e1 (ev_var (i := 6) rfl h_one) ev_int) (ea_cons (ev_e1 (ev_var (i := 7) rfl r24) ev_int) ea_nil)) (by simp)) rfl) upd_same (by rw [h_found.length, List.length_map]; have a1 := (List.getElem?_eq_some_iff.mp hi26).1; have a2 := Nat.lt_of_lt_of_le a1 (Nat.le_trans (cut_len _ _ _) (deeds_len hp_)); have a3 := (List.getElem?_eq_some_iff.mp hi15).1; rw [enumT_len] at a3; have a4 := Nat.lt_of_lt_of_le a3 (deeds_len hp_); omega) upd_same (fun v31 F_ e32 hv_ => ?_)
          replace h_events := h_events.mono e32
          replace h_names := h_names.mono e32
          replace h_found := h_found.mono e32
          replace h_deeds := h_deeds.mono e32
          replace h_one := h_one.mono e32
          replace r24 := r24.mono e32
          replace h_found := h_found.snoc hv_
          rw [show ∀ (l : List (Int × Int)) (y : (Int × Int)), l.map (eP D.int D.int) ++ [(eP D.int D.int) y] = (l ++ [y]).map (eP D.int D.int) from fun l y => by rw [List.map_append]; rfl] at h_found
          rw [upd_upd]
          refine bl_goes ?_
          refine bl_goes ?_
          exact bl_nil (by simp only [hq29, hq30, Bool.false_eq_true, if_true, if_false]; exact ⟨_, _, rfl, h_found, (by first | omega | (simp; omega)), rfl⟩)
        · refine bl_goes ?_
          exact bl_nil (by simp only [hq29, hq30, Bool.false_eq_true, if_true, if_false]; exact ⟨_, _, rfl, h_found, (by first | omega | (simp; omega)), rfl⟩)
      · exact bl_nil (by simp only [hq29, Bool.false_eq_true, if_true, if_false]; exact ⟨_, _, rfl, h_found, (by first | omega | (simp; omega)), rfl⟩)
    · replace h_events := h_events.mono e_
      replace h_names := h_names.mono e_
      replace h_found := h_found.mono e_
      replace h_deeds := h_deeds.mono e_
      replace h_one := h_one.mono e_
      obtain ⟨o_other, vs_found, rfl, h_found, inv22, rfl⟩ := J_
      exact bl_nil ⟨_, _, _, _, rfl, h_found, (by refine Nat.le_trans inv22 ?_; refine Nat.le_trans (Nat.add_le_add inv11 (Nat.le_trans (cut_len _ _ _) (deeds_len hp_))) ?_; omega), rfl⟩
  · replace h_events := h_events.mono e_
    replace h_names := h_names.mono e_
    replace h_found := h_found.mono e_
    replace h_deeds := h_deeds.mono e_
    obtain ⟨o_at, o_one, o_other, vs_found, rfl, h_found, inv11, rfl⟩ := J_
    refine bl_freeze (ds := ((((enumT (((events).filter fun x4 => ((decide ((x4).1 ∈ (("read" : Str) :: (("write" : Str) :: ([] : List Str))))) && (decide ((x4).2.1 ∈ (m_standing (events)))))).map fun x4 => x4))).foldl (fun (s9 : (List (Int × Int))) (x10 : (Int × Ev)) => ((((cutL (((events).filter fun x4 => ((decide ((x4).1 ∈ (("read" : Str) :: (("write" : Str) :: ([] : List Str))))) && (decide ((x4).2.1 ∈ (m_standing (events)))))).map fun x4 => x4) (some ((x10).1 + (1 : Int))) none)).foldl (fun (s20 : (List (Int × Int))) (x21 : Ev) => (if ((!decide (((x10).2).2.1 = (x21).2.1)) && ((decide ((pgE ((x10).2)) = (pgE (x21)))) && (decide (("write" : Str) ∈ (((x10).2).1 :: ((x21).1 :: ([] : List Str))))))) = true then (if (!(memB (((x10).2).2.1, (x21).2.1) s20)) = true then ((s20 ++ [(((x10).2).2.1, (x21).2.1)])) else (s20)) else (s20))) (s9)))) (([] : List (Int × Int))))).map (eP D.int D.int)) upd_same h_found (by rw [List.length_map]; refine Nat.le_trans inv11 ?_; rw [enumT_len]; have := deeds_len (p := fun x4 => (decide (((x4)).1 ∈ (("read" : Str) :: (("write" : Str) :: ([] : List Str)))) && decide (((x4)).2.1 ∈ (m_standing events)))) hp_; omega) (fun F_ e33 hf_found => ?_)
    rw [del_upd wn_found]
    replace h_events := h_events.mono e33
    replace h_names := h_names.mono e33
    replace h_deeds := h_deeds.mono e33
    replace h_found : Rep F_ (.ref l_found) (eR false (eP D.int D.int) ((((enumT (((events).filter fun x4 => ((decide ((x4).1 ∈ (("read" : Str) :: (("write" : Str) :: ([] : List Str))))) && (decide ((x4).2.1 ∈ (m_standing (events)))))).map fun x4 => x4))).foldl (fun (s9 : (List (Int × Int))) (x10 : (Int × Ev)) => ((((cutL (((events).filter fun x4 => ((decide ((x4).1 ∈ (("read" : Str) :: (("write" : Str) :: ([] : List Str))))) && (decide ((x4).2.1 ∈ (m_standing (events)))))).map fun x4 => x4) (some ((x10).1 + (1 : Int))) none)).foldl (fun (s20 : (List (Int × Int))) (x21 : Ev) => (if ((!decide (((x10).2).2.1 = (x21).2.1)) && ((decide ((pgE ((x10).2)) = (pgE (x21)))) && (decide (("write" : Str) ∈ (((x10).2).1 :: ((x21).1 :: ([] : List Str))))))) = true then (if (!(memB (((x10).2).2.1, (x21).2.1) s20)) = true then ((s20 ++ [(((x10).2).2.1, (x21).2.1)])) else (s20)) else (s20))) (s9)))) (([] : List (Int × Int)))))) := hf_found
    exact bl_ret (ev_var (i := 2) rfl h_found) ⟨rfl, rfl⟩
def m_answered_at (events : (List Ev)) : (List (Int × Int)) := (tMk (fun (x1 : (Int × Ev)) => (decide (((x1).2).1 = ("answer" : Str)))) (fun (x1 : (Int × Ev)) => ((x1).2).2.1) (fun (x1 : (Int × Ev)) => (x1).1) (enumT events))
def r_answered_at : List D → D → Prop := fun ds d => ∃ (t : Bool) (events : (List Ev)), (Ok events) ∧ ds = [(eR t eEv) events] ∧ d = (eT Sum.inl D.int) (m_answered_at events)
abbrev s22 : Stmt := topS 22
abbrev N22 : List Str := ["events", "at", "event"]
theorem sc22 : FnScope N22 ["events"] (defScope s22) := ⟨rfl, rfl, rfl, by decide +kernel, rfl, by decide +kernel, by decide +kernel⟩
theorem d_answered_at (T : Txt K mg)  {f : Addr} {fd : FuncData} (Fu : Fun K "answered_at" "answered_at" s22 f fd) : FnOk P w K mg base CX0 1 f fd ["events"] (spG (relP r_answered_at)) := by
  refine fn_ok Fu sc22 (fun ds F W d W' h => by obtain ⟨⟨_, _, _, rfl, _⟩, _⟩ := h; rfl) (fun cdv A outer s H E hr ds W d W' vs F h hv => ?_)
  have nd_ := sc22.nd
  obtain ⟨⟨t, events, hp_, rfl, rfl⟩, rfl⟩ := h
  cases hv with | @cons v_events _ _ _ h_events hv => ?_
  cases hv
  have hl_events := rep_len h_events
  exact bl_ret (ev_comp (own := [("at", 1), ("event", 2)]) (f := (eP D.int eEv)) (g := D.int) keI (fun (x1 : (Int × Ev)) => (decide (((x1).2).1 = ("answer" : Str)))) (fun (x1 : (Int × Ev)) => ((x1).2).2.1) (fun (x1 : (Int × Ev)) => (x1).1) (ei_enumR T.enumerate (ev_var (i := 0) rfl h_events)) (by first | assumption | omega | (simp only [List.length_map, enumT_len, rg_len]; omega) | (simp; done) | (simp; omega)) (fun x1 hx2 v_ F1_ e_ r3 => by
      replace h_events := h_events.mono e_
      have hx2m := enumT_mem hx2
      intro s_ H0_ C_ cl_ fp_
      refine tg_tup (ds := [D.int ((x1).1), eEv ((x1).2)]) r3 (fun vs6 rr7 => ?_)
      cases rr7 with | @cons v_at _ _ _ h_at rr7 => ?_
      cases rr7 with | @cons v_event _ _ _ h_event rr7 => ?_
      cases rr7
      refine tgs_cons ?_
      cases h_at
      refine tg_name (i := 1) ?_
      refine tgs_cons ?_
      refine tg_name (i := 2) ?_
      refine tgs_nil ?_
      refine ⟨rfl, fun s_ H0_ C_ cl_ fp_ => ?_, fun ht_ s_ H0_ C_ cl_ fp_ => ?_⟩
      · exact ets_one (et_cm (ev_e0 (ev_var (i := 2) rfl h_event) ev_int) ev_str (cm_eq (f := D.str) (x := ((x1).2).1) (y := ("answer" : Str)) hr lw_str))
      · exact ⟨(ev_e1 (ev_var (i := 2) rfl h_event) ev_int), (ev_var (i := 1) rfl (.int _))⟩) (ok := blkOk_by (N := N22) (sc := defScope s22) (by decide +kernel))) ⟨rfl, rfl⟩
end
end B
set_option Elab.async false
set_option linter.all false
set_option maxRecDepth 100000
set_option maxHeartbeats 1000000
namespace B
open PySem PySem.Spec PyProof.Rows L2 Z
section
variable {P : Program} {w : World} {K : PySem.W.Frag} {mg : Str → Option Value} {base : Heap}

def TInv (i : Nat) (t : List (Str × List Int)) : Prop := t.length ≤ i ∧ ∀ p ∈ t, p.2.length ≤ i
theorem mem_tSet {κ α : Type} [DecidableEq κ] {k : κ} {v : α} {p : κ × α} : ∀ {t : List (κ × α)}, p ∈ tSet t k v → p ∈ t ∨ p.2 = v
  | [], h => by cases h
  | q :: r, h => by
    unfold tSet at h
    rcases List.mem_cons.mp h with e | h
    · split at e
      · exact .inr (by rw [e])
      · exact .inl (by rw [e]; exact List.mem_cons_self)
    · rcases mem_tSet h with h | h
      · exact .inl (List.mem_cons_of_mem _ h)
      · exact .inr h
theorem mem_tPut {κ α : Type} [DecidableEq κ] {k : κ} {v : α} {p : κ × α} {t : List (κ × α)} (h : p ∈ tPut t k v) : p ∈ t ∨ p.2 = v := by
  unfold tPut at h
  split at h
  · exact mem_tSet h
  · rcases List.mem_append.mp h with h | h
    · exact .inl h
    · exact .inr (by rw [List.mem_singleton.mp h])
theorem mem_tGet {κ α : Type} [DecidableEq κ] {k : κ} {v : α} : ∀ {t : List (κ × α)}, tGet t k = some v → ∃ p ∈ t, p.2 = v
  | [], h => by cases h
  | q :: r, h => by
    unfold tGet at h
    split at h
    · exact ⟨q, List.mem_cons_self, Option.some.inj h⟩
    · obtain ⟨p, h1, h2⟩ := mem_tGet h
      exact ⟨p, List.mem_cons_of_mem _ h1, h2⟩
theorem TInv.mono {i : Nat} {t : List (Str × List Int)} (h : TInv i t) : TInv (i + 1) t := ⟨by have := h.1; omega, fun p hp => by have := h.2 p hp; omega⟩
theorem TInv.get {i : Nat} {t : List (Str × List Int)} (h : TInv i t) (k : Str) : ((tGet t k).getD []).length ≤ i := by
  cases e : tGet t k with
  | none => exact Nat.zero_le _
  | some v =>
    obtain ⟨p, h1, h2⟩ := mem_tGet e
    rw [← h2]; exact h.2 p h1
theorem TInv.put {i : Nat} {t : List (Str × List Int)} (h : TInv i t) (k : Str) (n : Int) : TInv (i + 1) (tPut t k (((tGet t k).getD []) ++ (n :: []))) := by
  refine ⟨Nat.le_trans (tPut_len _ _ _) (by have := h.1; omega), fun p hp => ?_⟩
  rcases mem_tPut hp with q | q
  · have := h.2 p q; omega
  · rw [q, List.length_append]; have := h.get k; simp only [List.length_cons, List.length_nil]; omega
theorem TInv.mk {i : Nat} {t : List (Str × List Int)} (h : TInv i t) (f : (Str × List Int) → List Int) (hf : ∀ p, (f p).length ≤ p.2.length) : TInv (i + 1) (tMk (fun _ => true) (fun x => x.1) f t) := by
  refine ⟨Nat.le_trans (tMk_len _ _ _ _) (by have := h.1; omega), ?_⟩
  have key : ∀ (l : List (Str × List Int)) (acc : List (Str × List Int)), (∀ p ∈ l, p.2.length ≤ i) → (∀ p ∈ acc, p.2.length ≤ i + 1) → ∀ p ∈ l.foldl (fun acc x => tPut acc x.1 (f x)) acc, p.2.length ≤ i + 1 := by
    intro l
    induction l with
    | nil => intro acc _ h2; exact h2
    | cons x l ih =>
      intro acc h1 h2
      refine ih _ (fun p hp => h1 p (List.mem_cons_of_mem _ hp)) fun p hp => ?_
      rcases mem_tPut hp with q | q
      · exact h2 p q
      · rw [q]; have := hf x; have := h1 x List.mem_cons_self; omega
  exact key _ [] (fun p hp => h.2 p (List.mem_filter.mp hp).1) (fun p hp => by cases hp)

def m_reads_of (events : (List Ev)) : (List (Int × Int × (Option Int))) := (((enumT events)).foldl (fun (s3 : (List (Str × (List Int))) × (List (Int × Int × (Option Int)))) (x4 : (Int × Ev)) => (if (decide (((x4).2).1 = ("write" : Str))) = true then ((tPut s3.1 (pgE ((x4).2)) (((tGet s3.1 (pgE ((x4).2))).getD ([] : List Int)) ++ (((x4).2).2.1 :: ([] : List Int)))), s3.2) else (if (decide (((x4).2).1 = ("stop" : Str))) = true then ((tMk (fun (_ : (Str × (List Int))) => true) (fun (x19 : (Str × (List Int))) => (x19).1) (fun (x19 : (Str × (List Int))) => ((((x19).2).filter fun x26 => (!decide (x26 = ((x4).2).2.1))).map fun x26 => x26)) s3.1), s3.2) else (if (decide (((x4).2).1 = ("read" : Str))) = true then (s3.1, (s3.2 ++ [((x4).1, ((x4).2).2.1, (if (!decide (((tGet s3.1 (pgE ((x4).2))).getD ([] : List Int)) = ([] : List Int))) = true then (some (ixI 0 ((tGet s3.1 (pgE ((x4).2))).getD ([] : List Int)) (-(1 : Int)))) else none))])) else (s3.1, s3.2))))) (([] : (List (Str × (List Int)))), ([] : List (Int × Int × (Option Int))))).2
def r_reads_of : List D → D → Prop := fun ds d => ∃ (t : Bool) (events : (List Ev)), (Ok events) ∧ ds = [(eR t eEv) events] ∧ d = (eR false (eP3 D.int D.int (eO D.int))) (m_reads_of events)
abbrev s21 : Stmt := topS 21
abbrev N21 : List Str := ["events", "found", "writers", "at", "event", "page", "row", "one"]
theorem sc21 : FnScope N21 ["events"] (defScope s21) := ⟨rfl, rfl, rfl, by decide +kernel, rfl, by decide +kernel, by decide +kernel⟩
theorem d_reads_of (T : Txt K mg) (C_check_schedule : FnD P w K mg base 2 "check_schedule" ["events"] (relP r_check_schedule)) {f : Addr} {fd : FuncData} (Fu : Fun K "reads_of" "reads_of" s21 f fd) : FnOk P w K mg base CX0 3 f fd ["events"] (spG (relP r_reads_of)) := by
  refine fn_ok Fu sc21 (fun ds F W d W' h => by obtain ⟨⟨_, _, _, rfl, _⟩, _⟩ := h; rfl) (fun cdv A outer s H E hr ds W d W' vs F h hv => ?_)
  have nd_ := sc21.nd
  obtain ⟨⟨t, events, hp_, rfl, rfl⟩, rfl⟩ := h
  cases hv with | @cons v_events _ _ _ h_events hv => ?_
  cases hv
  have hl_events := rep_len h_events
  refine bl_expr (ev_call C_check_schedule (hr.mono (by decide)) (ea_cons (ev_var (i := 0) rfl h_events) ea_nil) (⟨t, (events), (by first | assumption | exact hp_.1 | omega), rfl, rfl⟩)) ?_
  refine bl_par2C (i := 1) (j := 2) ?_
  refine ec_N (en_lst ea_nil (by simp)) (fun l_found vs_found F_ e1 h_found wn_found => ?_)
  replace h_events := h_events.mono e1
  replace h_found : Reps F_ vs_found (([] : List (Int × Int × (Option Int))).map (eP3 D.int D.int (eO D.int))) := h_found
  refine ec_M em_new (fun l_writers vs_writers F_ e2 h_writers wn_writers => ?_)
  obtain ⟨ne_writers, w0_writers⟩ := upd_none wn_writers
  replace h_events := h_events.mono e2
  replace h_found := h_found.mono e2
  replace h_writers : RepK F_ vs_writers (eTm Sum.inr (eR false D.int) ([] : (List (Str × (List Int))))) := h_writers
  refine bl_forK (xs := (enumT events)) (f := (eP D.int eEv)) (ei_enumR T.enumerate (ev_var (i := 0) rfl h_events)) (fun (s3 : (List (Str × (List Int))) × (List (Int × Int × (Option Int)))) (x4 : (Int × Ev)) => (if (decide (((x4).2).1 = ("write" : Str))) = true then ((tPut s3.1 (pgE ((x4).2)) (((tGet s3.1 (pgE ((x4).2))).getD ([] : List Int)) ++ (((x4).2).2.1 :: ([] : List Int)))), s3.2) else (if (decide (((x4).2).1 = ("stop" : Str))) = true then ((tMk (fun (_ : (Str × (List Int))) => true) (fun (x19 : (Str × (List Int))) => (x19).1) (fun (x19 : (Str × (List Int))) => ((((x19).2).filter fun x26 => (!decide (x26 = ((x4).2).2.1))).map fun x26 => x26)) s3.1), s3.2) else (if (decide (((x4).2).1 = ("read" : Str))) = true then (s3.1, (s3.2 ++ [((x4).1, ((x4).2).2.1, (if (!decide (((tGet s3.1 (pgE ((x4).2))).getD ([] : List Int)) = ([] : List Int))) = true then (some (ixI 0 ((tGet s3.1 (pgE ((x4).2))).getD ([] : List Int)) (-(1 : Int)))) else none))])) else (s3.1, s3.2))))) (([] : (List (Str × (List Int)))), ([] : List (Int × Int × (Option Int)))) (fun i_ (s_ : (List (Str × (List Int))) × (List (Int × Int × (Option Int)))) σ_ F_ W_ => ∃ (o_at : Option V) (o_event : Option V) (o_page : Option V) (o_row : Option V) (l_writers : Addr) (vs_writers : List (Key × V)) (vs_found : List V), σ_ = [some v_events, some (.ref l_found), some (.ref l_writers), o_at, o_event, o_page, o_row, none] ∧ l_writers ≠ l_found ∧ W' l_writers = none ∧ RepK F_ vs_writers (eTm Sum.inr (eR false D.int) (s_.1)) ∧ Reps F_ vs_found ((s_.2).map (eP3 D.int D.int (eO D.int))) ∧ (TInv i_ s_.1 ∧ s_.2.length ≤ i_) ∧ W_ = (upd (upd W' l_found (.lst vs_found)) l_writers (.dK vs_writers))) (fun F_ e_ => ?_) (fun i8 x4 hi9 hx6 s3 σ_ F_ W_ e_ J_ v_ F2_ e2_ r7 => ?_) (fun σ_ F_ W_ e_ J_ => ?_)
  · replace h_events := h_events.mono e_
    replace h_found := h_found.mono e_
    replace h_writers := h_writers.mono e_
    exact ⟨_, _, _, _, _, _, _, rfl, ne_writers, w0_writers, h_writers, h_found, (by exact ⟨⟨Nat.le_refl _, fun p hp => by cases hp⟩, Nat.le_refl _⟩), rfl⟩
  · replace h_events := h_events.mono e_
    replace h_found := h_found.mono e_
    replace h_writers := h_writers.mono e_
    obtain ⟨o_at, o_event, o_page, o_row, l_writers, vs_writers, vs_found, rfl, ne_writers, w0_writers, h_writers, h_found, inv5, rfl⟩ := J_
    replace h_events := h_events.mono e2_
    replace h_found := h_found.mono e2_
    replace h_writers := h_writers.mono e2_
    have hx6m := enumT_mem hx6
    refine tg_tup (ds := [D.int ((x4).1), eEv ((x4).2)]) r7 (fun vs12 rr13 => ?_)
    cases rr13 with | @cons v_at _ _ _ h_at rr13 => ?_
    cases rr13 with | @cons v_event _ _ _ h_event rr13 => ?_
    cases rr13
    refine tgs_cons ?_
    cases h_at
    refine tg_name (i := 3) ?_
    refine tgs_cons ?_
    refine tg_name (i := 4) ?_
    refine tgs_nil ?_
    refine bl_if (q := (decide (((x4).2).1 = ("write" : Str)))) (et_cm (ev_e0 (ev_var (i := 4) rfl h_event) ev_int) ev_str (cm_eq (f := D.str) (x := ((x4).2).1) (y := ("write" : Str)) hr lw_str)) (fun hq14 => ?_) (fun hq14 => ?_)
    · refine bl_tput (g := (eR false D.int)) (t := s3.1) (x := (((tGet s3.1 (pgE ((x4).2))).getD ([] : List Int)) ++ (((x4).2).2.1 :: ([] : List Int)))) keS hr (ev_lstR (((tGet s3.1 (pgE ((x4).2))).getD ([] : List Int)) ++ (((x4).2).2.1 :: ([] : List Int))) (ea_starR (ev_tgetW (g := (eR false D.int)) (t := s3.1) keS hr (ev_var (i := 2) rfl (.ow _)) (ev_e2 (ev_var (i := 4) rfl h_event) ev_int (by exact deed_gd (hp_.2.1 _ hx6m.2.2) (by have q := of_decide_eq_true hq14; rw [q]; simp))) (ev_lstR ([] : List Int) (ea_nilR (f := D.int)) (by simp [rg_len, enumT_len]; try omega)) upd_same h_writers) (ea_consR (f := D.int) (x := ((x4).2).2.1) (ev_e1 (ev_var (i := 4) rfl h_event) ev_int) (ea_nilR (f := D.int)))) (by have a1 := (List.getElem?_eq_some_iff.mp hi9).1; rw [enumT_len] at a1; have := inv5.1.get (pgE (x4).2); rw [List.length_append]; simp only [List.length_cons, List.length_nil]; omega)) (ev_var (i := 2) rfl (.ow _)) (ev_e2 (ev_var (i := 4) rfl h_event) ev_int (by exact deed_gd (hp_.2.1 _ hx6m.2.2) (by have q := of_decide_eq_true hq14; rw [q]; simp))) upd_same h_writers (by have a1 := (List.getElem?_eq_some_iff.mp hi9).1; rw [enumT_len] at a1; have := inv5.1.1; omega) (fun vs_writers F_ e15 hn_ => ?_)
      replace h_events := h_events.mono e15
      replace h_found := h_found.mono e15
      replace h_event := h_event.mono e15
      replace h_writers := hn_
      rw [upd_upd]
      refine bl_goes ?_
      exact bl_nil (by simp only [hq14, Bool.false_eq_true, if_true, if_false]; exact ⟨_, _, _, _, _, _, _, rfl, ne_writers, w0_writers, h_writers, h_found, (by exact ⟨inv5.1.put _ _, by have := inv5.2; omega⟩), rfl⟩)
    · refine bl_if (q := (decide (((x4).2).1 = ("stop" : Str)))) (et_cm (ev_e0 (ev_var (i := 4) rfl h_event) ev_int) ev_str (cm_eq (f := D.str) (x := ((x4).2).1) (y := ("stop" : Str)) hr lw_str)) (fun hq16 => ?_) (fun hq16 => ?_)
      · refine bl_freezeM (l := l_writers) upd_same h_writers (by have a1 := (List.getElem?_eq_some_iff.mp hi9).1; rw [enumT_len] at a1; rw [eTm_len]; have := inv5.1.1; omega) (fun F_ e17 hF_ hf_writers => ?_)
        rw [del_upd (none_upd ne_writers w0_writers)]
        replace h_events := h_events.mono e17
        replace h_found := h_found.mono e17
        replace h_writers := h_writers.mono e17
        replace h_event := h_event.mono e17
        refine bl_setDcL (i := 2) hF_ (fun od_ => by
          replace h_events := Rep.lk (lk_lock (od := od_) hF_) h_events
          replace h_found := Reps.lk (lk_lock (od := od_) hF_) h_found
          replace h_event := Rep.lk (lk_lock (od := od_) hF_) h_event
          exact dc_comp (own := [("page", 5), ("row", 6)]) (f := (eP D.str (eR false D.int))) (g := (eR false D.int)) keS (fun (_ : (Str × (List Int))) => true) (fun (x19 : (Str × (List Int))) => (x19).1) (fun (x19 : (Str × (List Int))) => ((((x19).2).filter fun x26 => (!decide (x26 = ((x4).2).2.1))).map fun x26 => x26)) (ei_items (t := s3.1) keS (ev_var (i := 2) rfl (.ow _)) upd_same (RepK.lk (lk_lock hF_) h_writers)) (by have a1 := (List.getElem?_eq_some_iff.mp hi9).1; rw [enumT_len] at a1; have := inv5.1.1; omega) (fun x19 hx20 v_ F1_ e_ r21 => by
                replace h_events := h_events.mono e_
                replace h_found := h_found.mono e_
                replace h_event := h_event.mono e_
                intro s_ H0_ C_ cl_ fp_
                refine tg_tup (ds := [D.str ((x19).1), (eR false D.int) ((x19).2)]) r21 (fun vs24 rr25 => ?_)
                cases rr25 with | @cons v_page _ _ _ h_page rr25 => ?_
                cases rr25 with | @cons v_row _ _ _ h_row rr25 => ?_
                cases rr25
                refine tgs_cons ?_
                cases h_page
                refine tg_name (i := 5) ?_
                refine tgs_cons ?_
                refine tg_name (i := 6) ?_
                refine tgs_nil ?_
                refine ⟨rfl, fun s_ H0_ C_ cl_ fp_ => ?_, fun ht_ s_ H0_ C_ cl_ fp_ => ?_⟩
                · exact ets_nil
                · exact ⟨(ev_var (i := 5) rfl (.str _)), (ev_ofLc (lc_F (own := [("one", 7)]) (f := D.int) (g := D.int) (fun x26 => (!decide (x26 = ((x4).2).2.1))) (fun x26 => x26) (ei_row (ev_var (i := 6) rfl h_row)) (by first | exact rep_len h_row | assumption | omega | (simp only [List.length_map, enumT_len, rg_len]; omega) | (simp; done) | (simp; omega)) (fun x26 hx27 v_ F1_ e_ r28 => by
      replace h_events := h_events.mono e_
      replace h_found := h_found.mono e_
      replace h_event := h_event.mono e_
      replace h_row := h_row.mono e_
      intro s_ H0_ C_ cl_ fp_
      cases r28
      refine tg_name (i := 7) ?_
      refine ⟨((wipe_set (by decide)).trans (wipe_wipe)), fun s_ H0_ C_ cl_ fp_ => ?_, fun ht_ s_ H0_ C_ cl_ fp_ => ?_⟩
      · exact ets_one (et_cm (ev_var (i := 7) rfl (.int _)) (ev_e1 (ev_var (i := 4) rfl h_event) ev_int) (cm_ne (f := D.int) (x := x26) (y := ((x4).2).2.1) hr lw_int))
      · exact (ev_var (i := 7) rfl (.int _)))) (ok := by exact blkOk_by (by kernel_rfl)))⟩)) (ok := blkOk_by (N := N21) (sc := defScope s21) (by decide +kernel)) (fun l_writers vs_writers F_ e18 h_writers wn_writers => ?_)
        clear ne_writers w0_writers
        obtain ⟨ne_writers, w0_writers⟩ := upd_none wn_writers
        replace h_events := h_events.mono e18
        replace h_found := h_found.mono e18
        replace h_event := h_event.mono e18
        refine bl_goes ?_
        refine bl_goes ?_
        exact bl_nil (by simp only [hq14, hq16, Bool.false_eq_true, if_true, if_false]; exact ⟨_, _, _, _, _, _, _, rfl, ne_writers, w0_writers, h_writers, h_found, (by exact ⟨inv5.1.mk _ (fun p => by rw [List.length_map]; exact List.length_filter_le _ _), by have := inv5.2; omega⟩), rfl⟩)
      · refine bl_when (q := (decide (((x4).2).1 = ("read" : Str)))) (et_cm (ev_e0 (ev_var (i := 4) rfl h_event) ev_int) ev_str (cm_eq (f := D.str) (x := ((x4).2).1) (y := ("read" : Str)) hr lw_str)) (fun hq29 => ?_) (fun hq29 => ?_)
        · refine bl_asg (i := 6) (ev_tgetW (g := (eR false D.int)) (t := s3.1) keS hr (ev_var (i := 2) rfl (.ow _)) (ev_e2 (ev_var (i := 4) rfl h_event) ev_int (by exact deed_gd (hp_.2.1 _ hx6m.2.2) (by have q := of_decide_eq_true hq29; rw [q]; simp))) (ev_lstR ([] : List Int) (ea_nilR (f := D.int)) (by simp [rg_len, enumT_len]; try omega)) upd_same h_writers) (fun v_row F_ e30 h_row => ?_)
          have hl_row := rep_len h_row
          replace h_events := h_events.mono e30
          replace h_found := h_found.mono e30
          replace h_writers := h_writers.mono e30
          replace h_event := h_event.mono e30
          refine bl_app (ev_var (i := 1) rfl (.ow _)) (ev_is (d1 := (eP3 D.int D.int (eO D.int)) ((x4).1, ((x4).2).2.1, (if (!decide (((tGet s3.1 (pgE ((x4).2))).getD ([] : List Int)) = ([] : List Int))) = true then (some (ixI 0 ((tGet s3.1 (pgE ((x4).2))).getD ([] : List Int)) (-(1 : Int)))) else none))) (ev_tup (ea_cons (ev_var (i := 3) rfl (.int _)) (ea_cons (ev_e1 (ev_var (i := 4) rfl h_event) ev_int) (ea_cons (ev_if (f := (eO D.int)) (x := (some (ixI 0 ((tGet s3.1 (pgE ((x4).2))).getD ([] : List Int)) (-(1 : Int))))) (y := none) (et_cm (ev_var (i := 6) rfl h_row) (ev_lstR ([] : List Int) (ea_nilR (f := D.int)) (by simp [rg_len, enumT_len]; try omega)) (cm_ne (f := (eR false D.int)) (x := ((tGet s3.1 (pgE ((x4).2))).getD ([] : List Int))) (y := ([] : List Int)) hr (Lw.row lw_int))) (fun hi31 => (ev_is (d1 := (eO D.int) (some (ixI 0 ((tGet s3.1 (pgE ((x4).2))).getD ([] : List Int)) (-(1 : Int))))) (ev_ix (ev_var (i := 6) rfl h_row) (ev_neg ev_int) (ixI_at (d := 0) (by have q : ¬ ((tGet s3.1 (pgE (x4).2)).getD []) = [] := (by simpa using hi31); have := List.length_pos_iff.mpr q; omega))) rfl)) (fun hi32 => (ev_is (d1 := (eO D.int) none) ev_non rfl))) ea_nil))) (by simp)) rfl) (upd2_at ne_writers) (by have a1 := (List.getElem?_eq_some_iff.mp hi9).1; rw [enumT_len] at a1; rw [h_found.length, List.length_map]; have := inv5.2; omega) (upd2_at ne_writers) (fun v33 F_ e34 hv_ => ?_)
          replace h_events := h_events.mono e34
          replace h_found := h_found.mono e34
          replace h_writers := h_writers.mono e34
          replace h_event := h_event.mono e34
          replace h_row := h_row.mono e34
          replace h_found := h_found.snoc hv_
          rw [show ∀ (l : List (Int × Int × (Option Int))) (y : (Int × Int × (Option Int))), l.map (eP3 D.int D.int (eO D.int)) ++ [(eP3 D.int D.int (eO D.int)) y] = (l ++ [y]).map (eP3 D.int D.int (eO D.int)) from fun l y => by rw [List.map_append]; rfl] at h_found
          rw [upd2_put ne_writers]
          refine bl_goes ?_
          refine bl_goes ?_
          refine bl_goes ?_
          exact bl_nil (by simp only [hq14, hq16, hq29, Bool.false_eq_true, if_true, if_false]; exact ⟨_, _, _, _, _, _, _, rfl, ne_writers, w0_writers, h_writers, h_found, (by exact ⟨inv5.1.mono, by rw [List.length_append]; have := inv5.2; simp only [List.length_cons, List.length_nil]; omega⟩), rfl⟩)
        · refine bl_goes ?_
          refine bl_goes ?_
          exact bl_nil (by simp only [hq14, hq16, hq29, Bool.false_eq_true, if_true, if_false]; exact ⟨_, _, _, _, _, _, _, rfl, ne_writers, w0_writers, h_writers, h_found, (by exact ⟨inv5.1.mono, by have := inv5.2; omega⟩), rfl⟩)
  · replace h_events := h_events.mono e_
    replace h_found := h_found.mono e_
    replace h_writers := h_writers.mono e_
    obtain ⟨o_at, o_event, o_page, o_row, l_writers, vs_writers, vs_found, rfl, ne_writers, w0_writers, h_writers, h_found, inv5, rfl⟩ := J_
    refine bl_freezeM upd_same h_writers (by rw [eTm_len]; have := inv5.1.1; rw [enumT_len] at this; omega) (fun F_ e35 hF_ hf_writers => ?_)
    rw [del_upd (none_upd ne_writers w0_writers)]
    replace h_events := h_events.mono e35
    replace h_found := h_found.mono e35
    refine bl_freeze (ds := ((((enumT events)).foldl (fun (s3 : (List (Str × (List Int))) × (List (Int × Int × (Option Int)))) (x4 : (Int × Ev)) => (if (decide (((x4).2).1 = ("write" : Str))) = true then ((tPut s3.1 (pgE ((x4).2)) (((tGet s3.1 (pgE ((x4).2))).getD ([] : List Int)) ++ (((x4).2).2.1 :: ([] : List Int)))), s3.2) else (if (decide (((x4).2).1 = ("stop" : Str))) = true then ((tMk (fun (_ : (Str × (List Int))) => true) (fun (x19 : (Str × (List Int))) => (x19).1) (fun (x19 : (Str × (List Int))) => ((((x19).2).filter fun x26 => (!decide (x26 = ((x4).2).2.1))).map fun x26 => x26)) s3.1), s3.2) else (if (decide (((x4).2).1 = ("read" : Str))) = true then (s3.1, (s3.2 ++ [((x4).1, ((x4).2).2.1, (if (!decide (((tGet s3.1 (pgE ((x4).2))).getD ([] : List Int)) = ([] : List Int))) = true then (some (ixI 0 ((tGet s3.1 (pgE ((x4).2))).getD ([] : List Int)) (-(1 : Int)))) else none))])) else (s3.1, s3.2))))) (([] : (List (Str × (List Int)))), ([] : List (Int × Int × (Option Int))))).2).map (eP3 D.int D.int (eO D.int))) upd_same h_found (by rw [List.length_map]; have := inv5.2; rw [enumT_len] at this; omega) (fun F_ e36 hf_found => ?_)
    rw [del_upd wn_found]
    replace h_events := h_events.mono e36
    replace h_found : Rep F_ (.ref l_found) (eR false (eP3 D.int D.int (eO D.int)) ((((enumT events)).foldl (fun (s3 : (List (Str × (List Int))) × (List (Int × Int × (Option Int)))) (x4 : (Int × Ev)) => (if (decide (((x4).2).1 = ("write" : Str))) = true then ((tPut s3.1 (pgE ((x4).2)) (((tGet s3.1 (pgE ((x4).2))).getD ([] : List Int)) ++ (((x4).2).2.1 :: ([] : List Int)))), s3.2) else (if (decide (((x4).2).1 = ("stop" : Str))) = true then ((tMk (fun (_ : (Str × (List Int))) => true) (fun (x19 : (Str × (List Int))) => (x19).1) (fun (x19 : (Str × (List Int))) => ((((x19).2).filter fun x26 => (!decide (x26 = ((x4).2).2.1))).map fun x26 => x26)) s3.1), s3.2) else (if (decide (((x4).2).1 = ("read" : Str))) = true then (s3.1, (s3.2 ++ [((x4).1, ((x4).2).2.1, (if (!decide (((tGet s3.1 (pgE ((x4).2))).getD ([] : List Int)) = ([] : List Int))) = true then (some (ixI 0 ((tGet s3.1 (pgE ((x4).2))).getD ([] : List Int)) (-(1 : Int)))) else none))])) else (s3.1, s3.2))))) (([] : (List (Str × (List Int)))), ([] : List (Int × Int × (Option Int))))).2)) := hf_found
    exact bl_ret (ev_var (i := 1) rfl h_found) ⟨rfl, rfl⟩
end
end B
set_option Elab.async false
set_option linter.all false
set_option maxRecDepth 100000
set_option maxHeartbeats 1000000
namespace B
open PySem PySem.Spec PyProof.Rows L2 Z
section
variable {P : Program} {w : World} {K : PySem.W.Frag} {mg : Str → Option Value} {base : Heap}

def m_first_unsafe (events : (List Ev)) : (Option Int) := (match lpR (fun (s2 : Unit) (x3 : (Int × Int × (Option Int))) => (((if ((!((x3).2.2).isNone) && ((!decide ((x3).2.2 = (some (x3).2.1))) && (tGet (m_answered_at (events)) (x3).2.1).isSome)) = true then (if ((!(tGet (m_answered_at (events)) (((x3).2.2).getD 0)).isSome) || (decide (((tGet (m_answered_at (events)) (x3).2.1).getD 0) < ((tGet (m_answered_at (events)) (((x3).2.2).getD 0)).getD 0)))) = true then (.error (some (x3).1)) else (.ok ())) else (.ok ()))) : Except (Option Int) Unit)) (m_reads_of (events)) () with | .ok s2 => none | .error r_ => r_)
def r_first_unsafe : List D → D → Prop := fun ds d => ∃ (t : Bool) (events : (List Ev)), (Ok events) ∧ ds = [(eR t eEv) events] ∧ d = (eO D.int) (m_first_unsafe events)
abbrev s23 : Stmt := topS 23
abbrev N23 : List Str := ["events", "answers", "at", "one", "other"]
theorem sc23 : FnScope N23 ["events"] (defScope s23) := ⟨rfl, rfl, rfl, by decide +kernel, rfl, by decide +kernel, by decide +kernel⟩
theorem d_first_unsafe (T : Txt K mg) (C_answered_at : FnD P w K mg base 1 "answered_at" ["events"] (relP r_answered_at)) (C_reads_of : FnD P w K mg base 3 "reads_of" ["events"] (relP r_reads_of)) {f : Addr} {fd : FuncData} (Fu : Fun K "first_unsafe" "first_unsafe" s23 f fd) : FnOk P w K mg base CX0 4 f fd ["events"] (spG (relP r_first_unsafe)) := by
  refine fn_ok Fu sc23 (fun ds F W d W' h => by obtain ⟨⟨_, _, _, rfl, _⟩, _⟩ := h; rfl) (fun cdv A outer s H E hr ds W d W' vs F h hv => ?_)
  have nd_ := sc23.nd
  obtain ⟨⟨t, events, hp_, rfl, rfl⟩, rfl⟩ := h
  cases hv with | @cons v_events _ _ _ h_events hv => ?_
  cases hv
  have hl_events := rep_len h_events
  refine bl_asg (i := 1) (ev_call C_answered_at (hr.mono (by decide)) (ea_cons (ev_var (i := 0) rfl h_events) ea_nil) (⟨t, (events), (by first | assumption | exact hp_.1 | omega), rfl, rfl⟩)) (fun v_answers F_ e1 h_answers => ?_)
  replace h_events := h_events.mono e1
  refine bl_forR (R := (Option Int)) (xs := (m_reads_of (events))) (f := (eP3 D.int D.int (eO D.int))) (ei_row (ev_call C_reads_of (hr.mono (by decide)) (ea_cons (ev_var (i := 0) rfl h_events) ea_nil) (⟨t, (events), (by first | assumption | exact hp_.1 | omega), rfl, rfl⟩))) (fun (s2 : Unit) (x3 : (Int × Int × (Option Int))) => (((if ((!((x3).2.2).isNone) && ((!decide ((x3).2.2 = (some (x3).2.1))) && (tGet (m_answered_at (events)) (x3).2.1).isSome)) = true then (if ((!(tGet (m_answered_at (events)) (((x3).2.2).getD 0)).isSome) || (decide (((tGet (m_answered_at (events)) (x3).2.1).getD 0) < ((tGet (m_answered_at (events)) (((x3).2.2).getD 0)).getD 0)))) = true then (.error (some (x3).1)) else (.ok ())) else (.ok ()))) : Except (Option Int) Unit)) () (fun (s_ : Unit) σ_ F_ W_ => ∃ (o_at : Option V) (o_one : Option V) (o_other : Option V), σ_ = [some v_events, some v_answers, o_at, o_one, o_other] ∧ W_ = W') (fun F_ e_ => ?_) (fun x3 hx5 s2 σ_ F_ W_ e_ J_ v_ F2_ e2_ r6 => ?_) (fun s2 hl_ σ_ F_ W_ e_ J_ => ?_)
  · replace h_events := h_events.mono e_
    replace h_answers := h_answers.mono e_
    exact ⟨_, _, _, rfl, rfl⟩
  · replace h_events := h_events.mono e_
    replace h_answers := h_answers.mono e_
    obtain ⟨o_at, o_one, o_other, rfl, rfl⟩ := J_
    replace h_events := h_events.mono e2_
    replace h_answers := h_answers.mono e2_
    refine tg_tup (ds := [D.int ((x3).1), D.int ((x3).2.1), (eO D.int) ((x3).2.2)]) r6 (fun vs12 rr13 => ?_)
    cases rr13 with | @cons v_at _ _ _ h_at rr13 => ?_
    cases rr13 with | @cons v_one _ _ _ h_one rr13 => ?_
    cases rr13 with | @cons v_other _ _ _ h_other rr13 => ?_
    cases rr13
    refine tgs_cons ?_
    cases h_at
    refine tg_name (i := 2) ?_
    refine tgs_cons ?_
    cases h_one
    refine tg_name (i := 3) ?_
    refine tgs_cons ?_
    refine tg_name (i := 4) ?_
    refine tgs_nil ?_
    refine bl_when (q := ((!((x3).2.2).isNone) && ((!decide ((x3).2.2 = (some (x3).2.1))) && (tGet (m_answered_at (events)) (x3).2.1).isSome))) (et_w (ew_and (et_cm (ev_var (i := 4) rfl h_other) ev_non (cm_isnotO (f := D.int) (x := (x3).2.2) (fun _ => rfl))) (fun hb14 => (ew_and (et_cm (ev_var (i := 4) rfl h_other) (ev_is (d1 := (eO D.int) (some (x3).2.1)) (ev_var (i := 3) rfl (.int _)) rfl) (cm_ne (f := (eO D.int)) (x := (x3).2.2) (y := (some (x3).2.1)) hr (Lw.opt lw_int (fun _ => rfl) (fun _ => rfl)))) (fun hb15 => (ew_and1 (et_tin keI hr (ev_var (i := 3) rfl (.int _)) (ev_var (i := 1) rfl h_answers) (by with_unfolding_all rfl)))))))) (fun hq16 => ?_) (fun hq16 => ?_)
    · refine bl_when (q := ((!(tGet (m_answered_at (events)) (((x3).2.2).getD 0)).isSome) || (decide (((tGet (m_answered_at (events)) (x3).2.1).getD 0) < ((tGet (m_answered_at (events)) (((x3).2.2).getD 0)).getD 0))))) (et_w (ew_or (et_tni keI hr (ev_is (d1 := D.int (((x3).2.2).getD 0)) (ev_var (i := 4) rfl h_other) (eO_get (by first | (have q_ := hq16; revert q_; cases hO_ : (x3).2.2 <;> simp) | assumption))) (ev_var (i := 1) rfl h_answers) (by with_unfolding_all rfl)) (fun hb17 => (ew_or1 (et_cm (ev_tsub keI hr (ev_var (i := 1) rfl h_answers) (ev_is (d1 := D.int (((x3).2.2).getD 0)) (ev_var (i := 4) rfl h_other) (eO_get (by first | (have q_ := hq16; revert q_; cases hO_ : (x3).2.2 <;> simp) | assumption))) (oGet (by first | (have q_ := hb17; revert q_; cases hO_ : (tGet (m_answered_at (events)) (((x3).2.2).getD 0)) <;> simp) | assumption))) (ev_tsub keI hr (ev_var (i := 1) rfl h_answers) (ev_var (i := 3) rfl (.int _)) (oGet (by first | (have q_ := hq16; revert q_; cases hO_ : (tGet (m_answered_at (events)) (x3).2.1) <;> simp) | assumption))) cm_gt))))) (fun hq18 => ?_) (fun hq18 => ?_)
      · exact bl_ret (ev_is (d1 := (eO D.int) (some (x3).1)) (ev_var (i := 2) rfl (.int _)) rfl) ⟨(some (x3).1), (by simp only [hq16, hq18, Bool.false_eq_true, if_true, if_false]), fun hl_ => by show _ = _ ∧ _; (try unfold m_first_unsafe); rw [hl_]; exact ⟨rfl, rfl⟩⟩
      · refine bl_goes ?_
        exact bl_nil ⟨(), (by simp only [hq16, hq18, Bool.false_eq_true, if_true, if_false]), ⟨_, _, _, rfl, rfl⟩⟩
    · exact bl_nil ⟨(), (by simp only [hq16, Bool.false_eq_true, if_true, if_false]), ⟨_, _, _, rfl, rfl⟩⟩
  · replace h_events := h_events.mono e_
    replace h_answers := h_answers.mono e_
    obtain ⟨o_at, o_one, o_other, rfl, rfl⟩ := J_
    (try unfold m_first_unsafe)
    rw [hl_]
    exact bl_ret (ev_is (d1 := (eO D.int) none) ev_non rfl) ⟨rfl, rfl⟩
def m_first_dirty (events : (List Ev)) : (Option Int) := (match lpR (fun (s2 : Unit) (x3 : (Int × Int × (Option Int))) => (((if ((!((x3).2.2).isNone) && ((!decide ((x3).2.2 = (some (x3).2.1))) && (decide ((x3).1 < ((tGet (m_answered_at (events)) (((x3).2.2).getD 0)).getD ((events).length : Int)))))) = true then (.error (some (x3).1)) else (.ok ()))) : Except (Option Int) Unit)) (m_reads_of (events)) () with | .ok s2 => none | .error r_ => r_)
def r_first_dirty : List D → D → Prop := fun ds d => ∃ (t : Bool) (events : (List Ev)), (Ok events) ∧ ds = [(eR t eEv) events] ∧ d = (eO D.int) (m_first_dirty events)
abbrev s24 : Stmt := topS 24
abbrev N24 : List Str := ["events", "answers", "at", "one", "other"]
theorem sc24 : FnScope N24 ["events"] (defScope s24) := ⟨rfl, rfl, rfl, by decide +kernel, rfl, by decide +kernel, by decide +kernel⟩
theorem d_first_dirty (T : Txt K mg) (C_answered_at : FnD P w K mg base 1 "answered_at" ["events"] (relP r_answered_at)) (C_reads_of : FnD P w K mg base 3 "reads_of" ["events"] (relP r_reads_of)) {f : Addr} {fd : FuncData} (Fu : Fun K "first_dirty" "first_dirty" s24 f fd) : FnOk P w K mg base CX0 4 f fd ["events"] (spG (relP r_first_dirty)) := by
  refine fn_ok Fu sc24 (fun ds F W d W' h => by obtain ⟨⟨_, _, _, rfl, _⟩, _⟩ := h; rfl) (fun cdv A outer s H E hr ds W d W' vs F h hv => ?_)
  have nd_ := sc24.nd
  obtain ⟨⟨t, events, hp_, rfl, rfl⟩, rfl⟩ := h
  cases hv with | @cons v_events _ _ _ h_events hv => ?_
  cases hv
  have hl_events := rep_len h_events
  refine bl_asg (i := 1) (ev_call C_answered_at (hr.mono (by decide)) (ea_cons (ev_var (i := 0) rfl h_events) ea_nil) (⟨t, (events), (by first | assumption | exact hp_.1 | omega), rfl, rfl⟩)) (fun v_answers F_ e1 h_answers => ?_)
  replace h_events := h_events.mono e1
  refine bl_forR (R := (Option Int)) (xs := (m_reads_of (events))) (f := (eP3 D.int D.int (eO D.int))) (ei_row (ev_call C_reads_of (hr.mono (by decide)) (ea_cons (ev_var (i := 0) rfl h_events) ea_nil) (⟨t, (events), (by first | assumption | exact hp_.1 | omega), rfl, rfl⟩))) (fun (s2 : Unit) (x3 : (Int × Int × (Option Int))) => (((if ((!((x3).2.2).isNone) && ((!decide ((x3).2.2 = (some (x3).2.1))) && (decide ((x3).1 < ((tGet (m_answered_at (events)) (((x3).2.2).getD 0)).getD ((events).length : Int)))))) = true then (.error (some (x3).1)) else (.ok ()))) : Except (Option Int) Unit)) () (fun (s_ : Unit) σ_ F_ W_ => ∃ (o_at : Option V) (o_one : Option V) (o_other : Option V), σ_ = [some v_events, some v_answers, o_at, o_one, o_other] ∧ W_ = W') (fun F_ e_ => ?_) (fun x3 hx5 s2 σ_ F_ W_ e_ J_ v_ F2_ e2_ r6 => ?_) (fun s2 hl_ σ_ F_ W_ e_ J_ => ?_)
  · replace h_events := h_events.mono e_
    replace h_answers := h_answers.mono e_
    exact ⟨_, _, _, rfl, rfl⟩
  · replace h_events := h_events.mono e_
    replace h_answers := h_answers.mono e_
    obtain ⟨o_at, o_one, o_other, rfl, rfl⟩ := J_
    replace h_events := h_events.mono e2_
    replace h_answers := h_answers.mono e2_
    refine tg_tup (ds := [D.int ((x3).1), D.int ((x3).2.1), (eO D.int) ((x3).2.2)]) r6 (fun vs12 rr13 => ?_)
    cases rr13 with | @cons v_at _ _ _ h_at rr13 => ?_
    cases rr13 with | @cons v_one _ _ _ h_one rr13 => ?_
    cases rr13 with | @cons v_other _ _ _ h_other rr13 => ?_
    cases rr13
    refine tgs_cons ?_
    cases h_at
    refine tg_name (i := 2) ?_
    refine tgs_cons ?_
    cases h_one
    refine tg_name (i := 3) ?_
    refine tgs_cons ?_
    refine tg_name (i := 4) ?_
    refine tgs_nil ?_
    refine bl_when (q := ((!((x3).2.2).isNone) && ((!decide ((x3).2.2 = (some (x3).2.1))) && (decide ((x3).1 < ((tGet (m_answered_at (events)) (((x3).2.2).getD 0)).getD ((events).length : Int))))))) (et_w (ew_and (et_cm (ev_var (i := 4) rfl h_other) ev_non (cm_isnotO (f := D.int) (x := (x3).2.2) (fun _ => rfl))) (fun hb14 => (ew_and (et_cm (ev_var (i := 4) rfl h_other) (ev_is (d1 := (eO D.int) (some (x3).2.1)) (ev_var (i := 3) rfl (.int _)) rfl) (cm_ne (f := (eO D.int)) (x := (x3).2.2) (y := (some (x3).2.1)) hr (Lw.opt lw_int (fun _ => rfl) (fun _ => rfl)))) (fun hb15 => (ew_and1 (et_cm (ev_tget (g := D.int) keI hr (ev_var (i := 1) rfl h_answers) (ev_is (d1 := D.int (((x3).2.2).getD 0)) (ev_var (i := 4) rfl h_other) (eO_get (by first | (have q_ := hb14; revert q_; cases hO_ : (x3).2.2 <;> simp) | assumption))) (ev_blt T.len cl_lenR (ea_cons (ev_var (i := 0) rfl h_events) ea_nil) rfl)) (ev_var (i := 2) rfl (.int _)) cm_gt))))))) (fun hq16 => ?_) (fun hq16 => ?_)
    · exact bl_ret (ev_is (d1 := (eO D.int) (some (x3).1)) (ev_var (i := 2) rfl (.int _)) rfl) ⟨(some (x3).1), (by simp only [hq16, Bool.false_eq_true, if_true, if_false]), fun hl_ => by show _ = _ ∧ _; (try unfold m_first_dirty); rw [hl_]; exact ⟨rfl, rfl⟩⟩
    · exact bl_nil ⟨(), (by simp only [hq16, Bool.false_eq_true, if_true, if_false]), ⟨_, _, _, rfl, rfl⟩⟩
  · replace h_events := h_events.mono e_
    replace h_answers := h_answers.mono e_
    obtain ⟨o_at, o_one, o_other, rfl, rfl⟩ := J_
    (try unfold m_first_dirty)
    rw [hl_]
    exact bl_ret (ev_is (d1 := (eO D.int) none) ev_non rfl) ⟨rfl, rfl⟩
end
end B
set_option Elab.async false
set_option linter.all false
set_option maxRecDepth 100000
set_option maxHeartbeats 1000000
namespace B
open PySem PySem.Spec PyProof.Rows L2 Z
structure Cl (K : PySem.W.Frag) (mg : Str → Option Value) (CI : Addr) : Prop where
  c : ClsF K CI
  gi : mg "InTurn" = some (.ref CI)
  order : NoAttr K CI "order"
  isn : PySem.W.kitOne K (.ref CI) (.ref CI) = some true
  nfn : PySem.W.notFirst K CI (.ref CI) = true
def eI (CI : Addr) (o : List Int) : D := .ob CI [("order", eR true D.int o)]
def rel_init : List D → List (Str × D) → Prop := fun ds fds => ∃ (t : Bool) (order : List Int), ds = [eR t D.int order] ∧ fds = [(("order" : Str), eR true D.int order)]
section
variable {CI : Addr}
variable {P : Program} {w : World} {K : PySem.W.Frag} {mg : Str → Option Value} {base : Heap}

abbrev s17x0 : Stmt := clsS (topS 17) 0
theorem sc17x0 : FnScope ["self", "order"] ["self", "order"] (defScope s17x0) := ⟨rfl, rfl, rfl, by decide +kernel, rfl, by decide +kernel, by decide +kernel⟩
theorem d_InTurn_init (T : Txt K mg) (Y : Cl K mg CI) {f : Addr} {fd : FuncData} (Fu : Fun K "__init__" "InTurn.__init__" s17x0 f fd) : FnOk P w K mg base CX0 1 f fd ["self", "order"] (spI CI rel_init) := by
  refine init_ok Fu sc17x0 (fun ds fds h => by obtain ⟨_, _, rfl, _⟩ := h; rfl) (fun cdv A outer s H E hr ds fds W x dx vs F h hv hw => ?_)
  obtain ⟨t, order, rfl, rfl⟩ := h
  cases hv with | @cons v_order _ _ _ h_order hv => ?_
  cases hv
  refine bl_fld (ev_bty T.tuple cl_tupleR (ea_cons (ev_var (i := 1) rfl h_order) ea_nil) rfl) (ev_var (i := 0) rfl (.ow _)) hw Y.c.cls Y.order (by decide) (fun v1 F1 e1 h1 => ?_)
  exact bl_nil ⟨_, rfl, .cons h1 .nil⟩

def m_InTurn_eq (self : (List Int)) (other : (List Int)) : Bool := (true && (decide ((self) = (other))))
def r_InTurn_eq (CI : Addr) : List D → D → Prop := fun ds d => ∃ (self : (List Int)) (other : (List Int)), ds = [(eI CI) self, (eI CI) other] ∧ d = D.bl (m_InTurn_eq self other)
abbrev s17x2 : Stmt := clsS (topS 17) 2
abbrev N17x2 : List Str := ["self", "other"]
theorem sc17x2 : FnScope N17x2 ["self", "other"] (defScope s17x2) := ⟨rfl, rfl, rfl, by decide +kernel, rfl, by decide +kernel, by decide +kernel⟩
theorem d_InTurn_eq (T : Txt K mg)  (Y : Cl K mg CI)  {f : Addr} {fd : FuncData} (Fu : Fun K "__eq__" "InTurn.__eq__" s17x2 f fd) : FnOk P w K mg base CX0 1 f fd ["self", "other"] (spG (relP (r_InTurn_eq CI))) := by
  refine fn_ok Fu sc17x2 (fun ds F W d W' h => by obtain ⟨⟨_, _, rfl, _⟩, _⟩ := h; rfl) (fun cdv A outer s H E hr ds W d W' vs F h hv => ?_)
  have nd_ := sc17x2.nd
  obtain ⟨⟨self, other, rfl, rfl⟩, rfl⟩ := h
  cases hv with | @cons v_self _ _ _ h_self hv => ?_
  cases hv with | @cons v_other _ _ _ h_other hv => ?_
  cases hv
  exact bl_ret (ev_and (ev_isiO T.isinstance Y.gi (ev_var (i := 1) rfl h_other) Y.c Y.isn) (fun hb1 => (ev_bop1 (ev_cm (ev_fld (ev_var (i := 0) rfl h_self) Y.c.cls Y.order rfl) (ev_fld (ev_var (i := 1) rfl h_other) Y.c.cls Y.order rfl) (cm_eq (f := (eR true D.int)) (x := (self)) (y := (other)) hr (Lw.row lw_int)))))) ⟨rfl, rfl⟩
def JOk (events : List Ev) : Prop := Ok events ∧ ∀ p ∈ m_edges_of events, p.1 < p.2
theorem st_len {events : List Ev} (h : Ok events) : (m_standing events).length ≤ 30 := by
  unfold m_standing
  refine Nat.le_trans (sset_len _) ?_
  rw [List.length_map]; exact Nat.le_trans (List.length_filter_le _ _) h.1
theorem asc_right {a b c : List Int} (h : c.Pairwise (· < ·)) (e : a ++ b = c) : b.Pairwise (· < ·) := by rw [← e] at h; exact (List.pairwise_append.mp h).2.1
def nearL (edges : List (Int × Int)) (rest : List Int) : List Int := (((rest).filter fun x5 => (!((((edges).map fun x8 => ((decide ((x8).2 = x5)) && (decide ((x8).1 ∈ rest))))).any id))).map fun x5 => x5)
theorem near_head {edges : List (Int × Int)} {rest : List Int} (hlt : ∀ p ∈ edges, p.1 < p.2) (hasc : rest.Pairwise (· < ·)) (hne : rest ≠ []) : ∃ t, nearL edges rest = rest.headD 0 :: t := by
  cases rest with
  | nil => exact absurd rfl hne
  | cons a r =>
    unfold nearL
    rw [List.filter_cons_of_pos]
    · exact ⟨_, rfl⟩
    · simp only [Bool.not_eq_true', List.any_map, List.any_eq_false]
      intro p hp
      have h1 := hlt p hp
      obtain ⟨h2, _⟩ := List.pairwise_cons.mp hasc
      simp only [Function.comp_apply, id, Bool.and_eq_true, decide_eq_true_eq, not_and]
      intro e hm
      rcases List.mem_cons.mp hm with q | q
      · omega
      · have := h2 _ q; omega
theorem near_ne {edges : List (Int × Int)} {rest : List Int} (hlt : ∀ p ∈ edges, p.1 < p.2) (hasc : rest.Pairwise (· < ·)) (hne : rest ≠ []) : decide (nearL edges rest = []) = false := by
  obtain ⟨t, e⟩ := near_head hlt hasc hne
  rw [e]; rfl
theorem near_0 {edges : List (Int × Int)} {rest : List Int} (hlt : ∀ p ∈ edges, p.1 < p.2) (hasc : rest.Pairwise (· < ·)) (hne : rest ≠ []) : ixI 0 (nearL edges rest) 0 = rest.headD 0 := by
  obtain ⟨t, e⟩ := near_head hlt hasc hne
  rw [e]; exact ixI_nat (i := 0) (by simp)
theorem near_len {edges : List (Int × Int)} {rest : List Int} (hlt : ∀ p ∈ edges, p.1 < p.2) (hasc : rest.Pairwise (· < ·)) (hne : rest ≠ []) : 0 < (nearL edges rest).length := by
  obtain ⟨t, e⟩ := near_head hlt hasc hne
  rw [e]; simp
theorem rest_tl {rest : List Int} (hasc : rest.Pairwise (· < ·)) (hne : rest ≠ []) : (rest.filter fun x => !decide (x = rest.headD 0)).map (fun x => x) = rest.tail := by
  cases rest with
  | nil => exact absurd rfl hne
  | cons a r =>
    obtain ⟨h2, _⟩ := List.pairwise_cons.mp hasc
    rw [List.map_id', List.filter_cons_of_neg (by simp), List.filter_eq_self.mpr]
    · rfl
    · intro y hy
      have := h2 y hy
      show (!decide (y = a)) = true
      rw [decide_eq_false (by omega)]; rfl
def r_judge (CI : Addr) : List D → D → Prop := fun ds d => ∃ (t : Bool) (events : List Ev), JOk events ∧ ds = [eR t eEv events] ∧ d = eI CI (m_standing events)
abbrev s19 : Stmt := topS 19
abbrev N19 : List Str := ["events", "rest", "edges", "order", "near", "one", "first", "other"]
theorem sc19 : FnScope N19 ["events"] (defScope s19) := ⟨rfl, rfl, rfl, by decide +kernel, rfl, by decide +kernel, by decide +kernel⟩
theorem d_judge (T : Txt K mg) (Y : Cl K mg CI) (InI : InD P w K mg base 1 "InTurn" CI ["self", "order"] rel_init) (C_check_schedule : FnD P w K mg base 2 "check_schedule" ["events"] (relP r_check_schedule)) (C_standing : FnD P w K mg base 1 "standing" ["events"] (relP r_standing)) (C_edges_of : FnD P w K mg base 2 "edges_of" ["events"] (relP r_edges_of)) {f : Addr} {fd : FuncData} (Fu : Fun K "judge_schedule" "judge_schedule" s19 f fd) : FnOk P w K mg base CX0 3 f fd ["events"] (spG (relP (r_judge CI))) := by
  refine fn_ok Fu sc19 (fun ds F W d W' h => by obtain ⟨⟨_, _, _, rfl, _⟩, _⟩ := h; rfl) (fun cdv A outer s H E hr ds W d W' vs F h hv => ?_)
  have nd_ := sc19.nd
  obtain ⟨⟨t, events, ⟨hp_, hlt⟩, rfl, rfl⟩, rfl⟩ := h
  cases hv with | @cons v_events _ _ _ h_events hv => ?_
  cases hv
  have hl_events := rep_len h_events
  refine bl_expr (ev_call C_check_schedule (hr.mono (by decide)) (ea_cons (ev_var (i := 0) rfl h_events) ea_nil) (⟨t, (events), (by first | assumption | exact hp_.1 | omega), rfl, rfl⟩)) ?_
  refine bl_asgTC (ec_tup3 ?_)
  refine ec_S (ev_call C_standing (hr.mono (by decide)) (ea_cons (ev_var (i := 0) rfl h_events) ea_nil) (⟨t, (events), (by first | assumption | exact hp_.1 | omega), rfl, rfl⟩)) (fun v_rest F_ e1 h_rest => ?_)
  replace h_events := h_events.mono e1
  refine ec_S (ev_call C_edges_of (hr.mono (by decide)) (ea_cons (ev_var (i := 0) rfl h_events) ea_nil) (⟨t, (events), (by first | assumption | exact hp_.1 | omega), rfl, rfl⟩)) (fun v_edges F_ e2 h_edges => ?_)
  replace h_events := h_events.mono e2
  replace h_rest := h_rest.mono e2
  refine ec_N (en_lst ea_nil (by simp)) (fun l_order vs_order F_ e3 h_order wn_order => ?_)
  replace h_events := h_events.mono e3
  replace h_rest := h_rest.mono e3
  replace h_edges := h_edges.mono e3
  replace h_order : Reps F_ vs_order (([] : List Int).map D.int) := h_order
  intro t_ F_ e4 ht_
  replace h_events := h_events.mono e4
  replace h_rest := h_rest.mono e4
  replace h_edges := h_edges.mono e4
  replace h_order := h_order.mono e4
  refine tg_tup (ds := [(eR false D.int) ((m_standing (events))), (eR false (eP D.int D.int)) ((m_edges_of (events))), D.ow l_order]) (rep_tup ht_ (.cons h_rest (.cons h_edges (.cons (.ow _) .nil))) (by simp)) (fun vs_ rr_ => ?_)
  cases rr_ with | @cons v_rest _ _ _ q_rest rr_ => ?_
  cases rr_ with | @cons v_edges _ _ _ q_edges rr_ => ?_
  cases rr_ with | @cons v_order _ _ _ q_order rr_ => ?_
  cases rr_
  clear h_rest
  have h_rest := q_rest
  have hl_rest := rep_len h_rest
  clear h_edges
  have h_edges := q_edges
  have hl_edges := rep_len h_edges
  cases q_order
  refine tgs_cons (tg_name (i := 1) ?_)
  refine tgs_cons (tg_name (i := 2) ?_)
  refine tgs_cons (tg_name (i := 3) ?_)
  refine tgs_nil ?_
  refine bl_while (fun m σ_ F_ W_ => ∃ (rest done : List Int) (o_near o_one o_first o_other : Option V) (v_rest : V) (vs_order : List V), σ_ = [some v_events, some v_rest, some v_edges, some (.ref l_order), o_near, o_one, o_first, o_other] ∧ Rep F_ v_rest (eR false D.int rest) ∧ Reps F_ vs_order (done.map D.int) ∧ done ++ rest = m_standing events ∧ rest.length = m ∧ W_ = upd W' l_order (.lst vs_order)) (m_standing events).length ⟨m_standing events, [], _, _, _, _, _, _, rfl, h_rest, h_order, rfl, rfl, rfl⟩ (fun m σ_ F_ W_ e_ J_ => ?_)
  replace h_events := h_events.mono e_
  replace h_edges := h_edges.mono e_
  clear h_rest h_order
  obtain ⟨rest, done, o_near, o_one, o_first, o_other, v_rest, vs_order, rfl, h_rest, h_order, hsum, hm, rfl⟩ := J_
  have hst := st_len hp_
  have hasc : rest.Pairwise (· < ·) := asc_right (asc_sset _) hsum
  refine ⟨(!decide (rest = ([] : List Int))), _, (et_cm (ev_var (i := 1) rfl h_rest) (ev_lstR ([] : List Int) (ea_nilR (f := D.int)) (by simp [rg_len, enumT_len]; try omega)) (cm_ne (f := (eR false D.int)) (x := rest) (y := ([] : List Int)) hr (Lw.row lw_int))), fun hqw => ?_, fun hqw => ?_⟩
  · refine bl_asg (i := 4) (ev_ofLc (lc_F (own := [("one", 5)]) (f := D.int) (g := D.int) (fun x5 => (!(((((m_edges_of (events))).map fun x8 => ((decide ((x8).2 = x5)) && (decide ((x8).1 ∈ rest))))).any id))) (fun x5 => x5) (ei_row (ev_var (i := 1) rfl h_rest)) (by rw [← hsum, List.length_append] at hst; omega) (fun x5 hx6 v_ F1_ e_ r7 => by
      replace h_events := h_events.mono e_
      replace h_rest := h_rest.mono e_
      replace h_edges := h_edges.mono e_
      replace h_order := h_order.mono e_
      intro s_ H0_ C_ cl_ fp_
      cases r7
      refine tg_name (i := 5) ?_
      refine ⟨((wipe_set (by decide)).trans (wipe_wipe)), fun s_ H0_ C_ cl_ fp_ => ?_, fun ht_ s_ H0_ C_ cl_ fp_ => ?_⟩
      · exact ets_one (et_not (et_val (ev_blt T.any cl_any (ea_cons (ev_ofLc (lc_M (own := [("first", 6), ("other", 7)]) (f := (eP D.int D.int)) (g := D.bl) (fun x8 => ((decide ((x8).2 = x5)) && (decide ((x8).1 ∈ rest)))) (ei_row (ev_var (i := 2) rfl h_edges)) (by first | exact rep_len h_edges | assumption | omega | (simp only [List.length_map, enumT_len, rg_len]; omega) | (simp; done) | (simp; omega)) (fun x8 hx9 v_ F1_ e_ r10 => by
      replace h_events := h_events.mono e_
      replace h_rest := h_rest.mono e_
      replace h_edges := h_edges.mono e_
      replace h_order := h_order.mono e_
      intro s_ H0_ C_ cl_ fp_
      refine tg_tup (ds := [D.int ((x8).1), D.int ((x8).2)]) r10 (fun vs13 rr14 => ?_)
      cases rr14 with | @cons v_first _ _ _ h_first rr14 => ?_
      cases rr14 with | @cons v_other _ _ _ h_other rr14 => ?_
      cases rr14
      refine tgs_cons ?_
      cases h_first
      refine tg_name (i := 6) ?_
      refine tgs_cons ?_
      cases h_other
      refine tg_name (i := 7) ?_
      refine tgs_nil ?_
      refine ⟨((wipe_set (by decide)).trans ((wipe_set (by decide)).trans (wipe_wipe))), fun s_ H0_ C_ cl_ fp_ => ?_, fun ht_ s_ H0_ C_ cl_ fp_ => ?_⟩
      · exact ets_nil
      · exact (ev_and (ev_cm (ev_var (i := 7) rfl (.int _)) (ev_var (i := 5) rfl (.int _)) (cm_eq (f := D.int) (x := (x8).2) (y := x5) hr lw_int)) (fun hb15 => (ev_bop1 (ev_cm (ev_var (i := 6) rfl (.int _)) (ev_var (i := 1) rfl h_rest) (cm_in (f := D.int) (x := (x8).1) (xs := rest) hr lw_int) (by with_unfolding_all rfl))))))) (ok := by exact blkOk_by (by kernel_rfl))) ea_nil) rfl)))
      · exact (ev_var (i := 5) rfl (.int _)))) (ok := blkOk_by (N := N19) (sc := defScope s19) (by decide +kernel))) (fun v_near F_ e16 h_near => ?_)
    have hl_near := rep_len h_near
    replace h_events := h_events.mono e16
    replace h_rest := h_rest.mono e16
    replace h_edges := h_edges.mono e16
    replace h_order := h_order.mono e16
    have hne : rest ≠ [] := by intro q; simp [q] at hqw
    have hn1 : nearL (m_edges_of events) rest = (((rest).filter fun x5 => (!(((((m_edges_of (events))).map fun x8 => ((decide ((x8).2 = x5)) && (decide ((x8).1 ∈ rest))))).any id))).map fun x5 => x5) := rfl
    have hn2 := near_ne hlt hasc hne
    have hn3 := near_0 hlt hasc hne
    have hn4 := near_len hlt hasc hne
    rw [hn1] at hn2 hn3 hn4
    clear hn1
    generalize (((rest).filter fun x5 => (!(((((m_edges_of (events))).map fun x8 => ((decide ((x8).2 = x5)) && (decide ((x8).1 ∈ rest))))).any id))).map fun x5 => x5) = near at hn2 hn3 hn4 h_near hl_near ⊢
    refine bl_never (q := (decide (near = ([] : List Int)))) (et_cm (ev_var (i := 4) rfl h_near) (ev_lstR ([] : List Int) (ea_nilR (f := D.int)) (by simp [rg_len, enumT_len]; try omega)) (cm_eq (f := (eR false D.int)) (x := near) (y := ([] : List Int)) hr (Lw.row lw_int))) hn2 ?_
    refine bl_app (ev_var (i := 3) rfl (.ow _)) (ev_ix (ev_var (i := 4) rfl h_near) ev_int (ixI_at (d := 0) (by omega))) upd_same (by rw [h_order.length, List.length_map]; rw [← hsum, List.length_append] at hst; omega) upd_same (fun v22 F_ e23 hv_ => ?_)
    replace h_events := h_events.mono e23
    replace h_rest := h_rest.mono e23
    replace h_edges := h_edges.mono e23
    replace h_order := h_order.mono e23
    replace h_near := h_near.mono e23
    replace h_order := h_order.snoc hv_
    rw [show ∀ (l : List Int) (y : Int), l.map D.int ++ [D.int y] = (l ++ [y]).map D.int from fun l y => by rw [List.map_append]; rfl] at h_order
    rw [upd_upd]
    refine bl_asg (i := 1) (ev_ofLc (lc_F (own := [("one", 5)]) (f := D.int) (g := D.int) (fun x18 => (!decide (x18 = (ixI 0 near (0 : Int))))) (fun x18 => x18) (ei_row (ev_var (i := 1) rfl h_rest)) (by first | exact rep_len h_rest | assumption | omega | (simp only [List.length_map, enumT_len, rg_len]; omega) | (simp; done) | (simp; omega)) (fun x18 hx19 v_ F1_ e_ r20 => by
      replace h_events := h_events.mono e_
      replace h_rest := h_rest.mono e_
      replace h_edges := h_edges.mono e_
      replace h_order := h_order.mono e_
      replace h_near := h_near.mono e_
      intro s_ H0_ C_ cl_ fp_
      cases r20
      refine tg_name (i := 5) ?_
      refine ⟨((wipe_set (by decide)).trans (wipe_wipe)), fun s_ H0_ C_ cl_ fp_ => ?_, fun ht_ s_ H0_ C_ cl_ fp_ => ?_⟩
      · exact ets_one (et_cm (ev_var (i := 5) rfl (.int _)) (ev_ix (ev_var (i := 4) rfl h_near) ev_int (ixI_at (d := 0) (by omega))) (cm_ne (f := D.int) (x := x18) (y := (ixI 0 near (0 : Int))) hr lw_int))
      · exact (ev_var (i := 5) rfl (.int _)))) (ok := blkOk_by (N := N19) (sc := defScope s19) (by decide +kernel))) (fun v_rest F_ e21 h_rest => ?_)
    have hl_rest := rep_len h_rest
    replace h_events := h_events.mono e21
    replace h_edges := h_edges.mono e21
    replace h_order := h_order.mono e21
    replace h_near := h_near.mono e21
    have h2_ := rest_tl hasc hne
    rw [← hn3] at h2_
    exact bl_nil ⟨m - 1, by have := List.length_pos_iff.mpr hne; omega, rest.tail, done ++ [rest.headD 0], _, _, _, _, _, _, rfl, by rw [← h2_]; exact h_rest, by rw [← hn3]; exact h_order, by rw [← hsum]; cases rest with | nil => exact absurd rfl hne | cons a r => simp, by rw [List.length_tail]; omega, rfl⟩
  · have hre : rest = [] := by simpa using hqw
    subst hre
    rw [List.append_nil] at hsum
    refine bl_freeze (ds := (done).map D.int) upd_same h_order (by rw [List.length_map]; rw [← hsum] at hst; omega) (fun F_ e24 hf_order => ?_)
    rw [del_upd wn_order]
    replace h_events := h_events.mono e24
    replace h_rest := h_rest.mono e24
    replace h_edges := h_edges.mono e24
    replace h_order : Rep F_ (.ref l_order) (eR false D.int (done)) := hf_order
    exact bl_ret (ev_is (d1 := eI CI done) (ev_make InI (hr.mono (by decide)) (ea_cons (ev_var (i := 3) rfl h_order) ea_nil) ⟨_, done, rfl, rfl⟩) rfl) ⟨by rw [hsum], rfl⟩
end
end B
set_option Elab.async false
set_option linter.all false
set_option maxRecDepth 100000
set_option maxHeartbeats 1000000
namespace B
open PySem PySem.Spec PyProof.Rows L2 Z
def eZ (K : PySem.W.Frag) (xs : List Int) : D := .fz K (xs.map D.int)
section
variable {X : Cx} {F W W1 W2 : Hp} {σ : L2.St} {a b : Expr} {pos : Pos} {xs : List Int} {i : Int} {k : Nat}
theorem cl_lenZR : CalR X (.builtin "len") F W [eZ X.K xs] (.int xs.length) := (cl_lenZ (ds := xs.map D.int)).is (by rw [List.length_map])
theorem ev_ixZR (ha : EvS X a σ F W (eZ X.K xs) W1) (hb : EvS X b σ F W1 (.int i) W2) (h : -(xs.length : Int) ≤ i ∧ i < xs.length) (hs : ∀ v i, subscripted b false v i = operate [v, i] (getItem v i) := by intro _ _; rfl) : EvS X (.Subscript a b pos) σ F W (.int (ixI 0 xs i)) W2 :=
  ev_ixZ ha hb (atI_map (f := D.int) (ixI_at h)) hs
theorem cm_neZ (hr : Room k X.A) : CmpR X .NotEq F W (eZ X.K xs) (eR false D.int []) (!decide (xs = [])) := CmpR.is (k := !(eR false D.int xs).eqv (eR false D.int [])) ⟨_, op_neP hr, fun v1 v2 F1 H1 _ r1 r2 w Q k => ⟨_, _, r1.fz_dp w ((lw_int.row (t := false)).pl xs), r2.dp w rfl, D.pl_plain _ ((lw_int.row (t := false)).pl xs), D.pl_plain (eR false D.int []) rfl, Nat.le_trans ((lw_int.row (t := false)).dep xs) (by decide), k _ F1 H1 (Go.refl w) (.bl _)⟩⟩ (congrArg not ((lw_int.row (t := false)).eq xs []))
end
section
variable {P : Program} {w : World} {K : PySem.W.Frag} {mg : Str → Option Value} {base : Heap}

def m__law_number (script : (List Int)) (index : Int) : Int := (if (decide ((0 : Int) < (((rg 0 (((if (!decide (script = [])) = true then ((ixI 0 script (index % ((script).length : Int))), (index / ((script).length : Int))) else ((12345 : Int), (0 : Int)))).2 % (60 : Int)))).foldl (fun (s11 : Int) (x12 : Int) => ((s11 / (1009 : Int)))) ((if (decide (((if (!decide (script = [])) = true then ((ixI 0 script (index % ((script).length : Int))), (index / ((script).length : Int))) else ((12345 : Int), (0 : Int)))).2 < (60 : Int))) = true then (((if (!decide (script = [])) = true then ((ixI 0 script (index % ((script).length : Int))), (index / ((script).length : Int))) else ((12345 : Int), (0 : Int)))).1 - ((10 : Int) ^ ((18 : Int)).toNat)) else (0 : Int)))))) = true then ((((rg 0 (((if (!decide (script = [])) = true then ((ixI 0 script (index % ((script).length : Int))), (index / ((script).length : Int))) else ((12345 : Int), (0 : Int)))).2 % (60 : Int)))).foldl (fun (s11 : Int) (x12 : Int) => ((s11 / (1009 : Int)))) ((if (decide (((if (!decide (script = [])) = true then ((ixI 0 script (index % ((script).length : Int))), (index / ((script).length : Int))) else ((12345 : Int), (0 : Int)))).2 < (60 : Int))) = true then (((if (!decide (script = [])) = true then ((ixI 0 script (index % ((script).length : Int))), (index / ((script).length : Int))) else ((12345 : Int), (0 : Int)))).1 - ((10 : Int) ^ ((18 : Int)).toNat)) else (0 : Int)))) % (1009 : Int)) else ((((((((((((if (!decide (script = [])) = true then ((ixI 0 script (index % ((script).length : Int))), (index / ((script).length : Int))) else ((12345 : Int), (0 : Int)))).1 + ((977 : Int) * index)) * (48271 : Int)) + ((31 : Int) * ((script).length : Int))) % (2147483647 : Int)) * ((((((if (!decide (script = [])) = true then ((ixI 0 script (index % ((script).length : Int))), (index / ((script).length : Int))) else ((12345 : Int), (0 : Int)))).1 + ((977 : Int) * index)) * (48271 : Int)) + ((31 : Int) * ((script).length : Int))) % (2147483647 : Int))) + ((40503 : Int) * index)) % (2147483629 : Int)) * (69621 : Int)) + ((((((((((if (!decide (script = [])) = true then ((ixI 0 script (index % ((script).length : Int))), (index / ((script).length : Int))) else ((12345 : Int), (0 : Int)))).1 + ((977 : Int) * index)) * (48271 : Int)) + ((31 : Int) * ((script).length : Int))) % (2147483647 : Int)) * ((((((if (!decide (script = [])) = true then ((ixI 0 script (index % ((script).length : Int))), (index / ((script).length : Int))) else ((12345 : Int), (0 : Int)))).1 + ((977 : Int) * index)) * (48271 : Int)) + ((31 : Int) * ((script).length : Int))) % (2147483647 : Int))) + ((40503 : Int) * index)) % (2147483629 : Int)) / (977 : Int))) % (2147483587 : Int)))
def r__law_number (K : PySem.W.Frag) : List D → D → Prop := fun ds d => ∃ (script : (List Int)) (index : Int), (0 ≤ index ∧ script.length ≤ 63) ∧ ds = [(eZ K) script, D.int index] ∧ d = D.int (m__law_number script index)
abbrev s26 : Stmt := topS 26
abbrev N26 : List Str := ["script", "index", "cell", "turn", "rest", "step", "blend"]
theorem sc26 : FnScope N26 ["script", "index"] (defScope s26) := ⟨rfl, rfl, rfl, by decide +kernel, rfl, by decide +kernel, by decide +kernel⟩
theorem d__law_number (T : Txt K mg)  {f : Addr} {fd : FuncData} (Fu : Fun K "_law_number" "_law_number" s26 f fd) : FnOk P w K mg base CX0 1 f fd ["script", "index"] (spG (relP (r__law_number K))) := by
  refine fn_ok Fu sc26 (fun ds F W d W' h => by obtain ⟨⟨_, _, _, rfl, _⟩, _⟩ := h; rfl) (fun cdv A outer s H E hr ds W d W' vs F h hv => ?_)
  have nd_ := sc26.nd
  obtain ⟨⟨script, index, hp_, rfl, rfl⟩, rfl⟩ := h
  cases hv with | @cons v_script _ _ _ h_script hv => ?_
  cases hv with | @cons v_index _ _ _ h_index hv => ?_
  cases hv
  cases h_index
  obtain ⟨hp1, hp2⟩ := hp_
  refine bl_asgT (ev_if (f := (eP D.int D.int)) (x := ((ixI 0 script (index % ((script).length : Int))), (index / ((script).length : Int)))) (y := ((12345 : Int), (0 : Int))) (et_cm (ev_var (i := 0) rfl h_script) (ev_lstR (f := D.int) [] ea_nilR (by decide)) (cm_neZ hr)) (fun hi1 => (ev_is (d1 := (eP D.int D.int) ((ixI 0 script (index % ((script).length : Int))), (index / ((script).length : Int)))) (ev_tup (ea_cons (ev_ixZR (ev_var (i := 0) rfl h_script) (ev_mod (ev_var (i := 1) rfl (.int _)) (ev_blt T.len cl_lenZR (ea_cons (ev_var (i := 0) rfl h_script) ea_nil) rfl) (by have h1 : 0 < script.length := List.length_pos_iff.mpr (by simpa using hi1); omega)) (by have h1 : 0 < script.length := List.length_pos_iff.mpr (by simpa using hi1); exact ⟨by have := Int.emod_nonneg index (show (script.length : Int) ≠ 0 by omega); omega, Int.emod_lt_of_pos _ (by omega)⟩)) (ea_cons (ev_div (ev_var (i := 1) rfl (.int _)) (ev_blt T.len cl_lenZR (ea_cons (ev_var (i := 0) rfl h_script) ea_nil) rfl) (by have h1 : 0 < script.length := List.length_pos_iff.mpr (by simpa using hi1); exact ⟨by omega, by omega⟩)) ea_nil)) (by simp)) rfl)) (fun hi2 => (ev_is (d1 := (eP D.int D.int) ((12345 : Int), (0 : Int))) (ev_tup (ea_cons ev_int (ea_cons ev_int ea_nil)) (by simp)) rfl))) (fun v_ F_ e4 r3 => ?_)
  replace h_script := h_script.mono e4
  refine tg_tup (ds := [D.int (((if (!decide (script = [])) = true then ((ixI 0 script (index % ((script).length : Int))), (index / ((script).length : Int))) else ((12345 : Int), (0 : Int)))).1), D.int (((if (!decide (script = [])) = true then ((ixI 0 script (index % ((script).length : Int))), (index / ((script).length : Int))) else ((12345 : Int), (0 : Int)))).2)]) r3 (fun vs7 rr8 => ?_)
  cases rr8 with | @cons v_cell _ _ _ h_cell rr8 => ?_
  cases rr8 with | @cons v_turn _ _ _ h_turn rr8 => ?_
  cases rr8
  refine tgs_cons ?_
  cases h_cell
  refine tg_name (i := 2) ?_
  refine tgs_cons ?_
  cases h_turn
  refine tg_name (i := 3) ?_
  refine tgs_nil ?_
  refine bl_asgF (i := 4) (ev_if (f := D.int) (x := (((if (!decide (script = [])) = true then ((ixI 0 script (index % ((script).length : Int))), (index / ((script).length : Int))) else ((12345 : Int), (0 : Int)))).1 - ((10 : Int) ^ ((18 : Int)).toNat))) (y := (0 : Int)) (et_cm (ev_var (i := 3) rfl (.int _)) ev_int cm_lt) (fun hi9 => (ev_sub (ev_var (i := 2) rfl (.int _)) (ev_pow ev_int ev_int (by exact ⟨by decide, by decide, by decide⟩)))) (fun hi10 => ev_int)) (.int _) ?_
  refine bl_forK (xs := (rg 0 (((if (!decide (script = [])) = true then ((ixI 0 script (index % ((script).length : Int))), (index / ((script).length : Int))) else ((12345 : Int), (0 : Int)))).2 % (60 : Int)))) (f := D.int) (ei_range1 T.range (ea_cons (ev_mod (ev_bty T.int cl_int (ea_cons (ev_var (i := 3) rfl (.int _)) ea_nil) rfl) ev_int (by first | decide | omega)) ea_nil) (by omega) (by omega)) (fun (s11 : Int) (x12 : Int) => ((s11 / (1009 : Int)))) ((if (decide (((if (!decide (script = [])) = true then ((ixI 0 script (index % ((script).length : Int))), (index / ((script).length : Int))) else ((12345 : Int), (0 : Int)))).2 < (60 : Int))) = true then (((if (!decide (script = [])) = true then ((ixI 0 script (index % ((script).length : Int))), (index / ((script).length : Int))) else ((12345 : Int), (0 : Int)))).1 - ((10 : Int) ^ ((18 : Int)).toNat)) else (0 : Int))) (fun i_ (s_ : Int) σ_ F_ W_ => ∃ (o_step : Option V), σ_ = [some v_script, some (.int index), some (.int ((if (!decide (script = [])) = true then ((ixI 0 script (index % ((script).length : Int))), (index / ((script).length : Int))) else ((12345 : Int), (0 : Int)))).1), some (.int ((if (!decide (script = [])) = true then ((ixI 0 script (index % ((script).length : Int))), (index / ((script).length : Int))) else ((12345 : Int), (0 : Int)))).2), some (.int s_), o_step, none] ∧ W_ = W') (fun F_ e_ => ?_) (fun i16 x12 hi17 hx14 s11 σ_ F_ W_ e_ J_ v_ F2_ e2_ r15 => ?_) (fun σ_ F_ W_ e_ J_ => ?_)
  · replace h_script := h_script.mono e_
    exact ⟨_, rfl, rfl⟩
  · replace h_script := h_script.mono e_
    obtain ⟨o_step, rfl, rfl⟩ := J_
    replace h_script := h_script.mono e2_
    have hx14m := rg_mem.mp hx14
    cases r15
    refine tg_name (i := 5) ?_
    refine bl_asgF (i := 4) (ev_div (ev_var (i := 4) rfl (.int _)) ev_int (by first | exact ⟨by decide, by decide⟩ | exact ⟨by omega, by omega⟩)) (.int _) ?_
    exact bl_nil ⟨_, rfl, rfl⟩
  · replace h_script := h_script.mono e_
    obtain ⟨o_step, rfl, rfl⟩ := J_
    refine bl_whenR (q := (decide ((0 : Int) < (((rg 0 (((if (!decide (script = [])) = true then ((ixI 0 script (index % ((script).length : Int))), (index / ((script).length : Int))) else ((12345 : Int), (0 : Int)))).2 % (60 : Int)))).foldl (fun (s11 : Int) (x12 : Int) => ((s11 / (1009 : Int)))) ((if (decide (((if (!decide (script = [])) = true then ((ixI 0 script (index % ((script).length : Int))), (index / ((script).length : Int))) else ((12345 : Int), (0 : Int)))).2 < (60 : Int))) = true then (((if (!decide (script = [])) = true then ((ixI 0 script (index % ((script).length : Int))), (index / ((script).length : Int))) else ((12345 : Int), (0 : Int)))).1 - ((10 : Int) ^ ((18 : Int)).toNat)) else (0 : Int))))))) (f := D.int) (x := ((((rg 0 (((if (!decide (script = [])) = true then ((ixI 0 script (index % ((script).length : Int))), (index / ((script).length : Int))) else ((12345 : Int), (0 : Int)))).2 % (60 : Int)))).foldl (fun (s11 : Int) (x12 : Int) => ((s11 / (1009 : Int)))) ((if (decide (((if (!decide (script = [])) = true then ((ixI 0 script (index % ((script).length : Int))), (index / ((script).length : Int))) else ((12345 : Int), (0 : Int)))).2 < (60 : Int))) = true then (((if (!decide (script = [])) = true then ((ixI 0 script (index % ((script).length : Int))), (index / ((script).length : Int))) else ((12345 : Int), (0 : Int)))).1 - ((10 : Int) ^ ((18 : Int)).toNat)) else (0 : Int)))) % (1009 : Int))) (y := ((((((((((((if (!decide (script = [])) = true then ((ixI 0 script (index % ((script).length : Int))), (index / ((script).length : Int))) else ((12345 : Int), (0 : Int)))).1 + ((977 : Int) * index)) * (48271 : Int)) + ((31 : Int) * ((script).length : Int))) % (2147483647 : Int)) * ((((((if (!decide (script = [])) = true then ((ixI 0 script (index % ((script).length : Int))), (index / ((script).length : Int))) else ((12345 : Int), (0 : Int)))).1 + ((977 : Int) * index)) * (48271 : Int)) + ((31 : Int) * ((script).length : Int))) % (2147483647 : Int))) + ((40503 : Int) * index)) % (2147483629 : Int)) * (69621 : Int)) + ((((((((((if (!decide (script = [])) = true then ((ixI 0 script (index % ((script).length : Int))), (index / ((script).length : Int))) else ((12345 : Int), (0 : Int)))).1 + ((977 : Int) * index)) * (48271 : Int)) + ((31 : Int) * ((script).length : Int))) % (2147483647 : Int)) * ((((((if (!decide (script = [])) = true then ((ixI 0 script (index % ((script).length : Int))), (index / ((script).length : Int))) else ((12345 : Int), (0 : Int)))).1 + ((977 : Int) * index)) * (48271 : Int)) + ((31 : Int) * ((script).length : Int))) % (2147483647 : Int))) + ((40503 : Int) * index)) % (2147483629 : Int)) / (977 : Int))) % (2147483587 : Int))) (et_cm (ev_var (i := 4) rfl (.int _)) ev_int cm_gt) (fun hq18 => ?_) (fun hq18 => ?_)
    · exact bl_ret (ev_mod (ev_bty T.int cl_int (ea_cons (ev_var (i := 4) rfl (.int _)) ea_nil) rfl) ev_int (by first | decide | omega)) ⟨rfl, rfl⟩
    · refine bl_asgF (i := 6) (ev_mod (ev_add (ev_mul (ev_bty T.int cl_int (ea_cons (ev_add (ev_var (i := 2) rfl (.int _)) (ev_mul ev_int (ev_var (i := 1) rfl (.int _)) (by first | exact Or.inl ⟨by omega, by omega⟩ | exact Or.inr ⟨by omega, by omega⟩))) ea_nil) rfl) ev_int (by first | exact Or.inl ⟨by omega, by omega⟩ | exact Or.inr ⟨by omega, by omega⟩)) (ev_mul ev_int (ev_blt T.len cl_lenZR (ea_cons (ev_var (i := 0) rfl h_script) ea_nil) rfl) (by first | exact Or.inl ⟨by omega, by omega⟩ | exact Or.inr ⟨by omega, by omega⟩))) ev_int (by first | decide | omega)) (.int _) ?_
      refine bl_asgF (i := 6) (ev_mod (ev_add (ev_mul (ev_var (i := 6) rfl (.int _)) (ev_var (i := 6) rfl (.int _)) (by first | exact Or.inl ⟨by omega, by omega⟩ | exact Or.inr ⟨by omega, by omega⟩)) (ev_mul ev_int (ev_var (i := 1) rfl (.int _)) (by first | exact Or.inl ⟨by omega, by omega⟩ | exact Or.inr ⟨by omega, by omega⟩))) ev_int (by first | decide | omega)) (.int _) ?_
      exact bl_ret (ev_bty T.int cl_int (ea_cons (ev_mod (ev_add (ev_mul (ev_var (i := 6) rfl (.int _)) ev_int (by first | exact Or.inl ⟨by omega, by omega⟩ | exact Or.inr ⟨by omega, by omega⟩)) (ev_div (ev_var (i := 6) rfl (.int _)) ev_int (by first | exact ⟨by decide, by decide⟩ | exact ⟨by omega, by omega⟩))) ev_int (by first | decide | omega)) ea_nil) rfl) ⟨rfl, rfl⟩
def tk (ns : List Int) (k : Nat) (many : Int) : Int := m__law_number ns ((k : Int) + 1) % many
theorem tk_in (ns : List Int) (k : Nat) {many : Int} (h : 0 < many) : 0 ≤ tk ns k many ∧ tk ns k many < many := ⟨Int.emod_nonneg _ (by omega), Int.emod_lt_of_pos _ h⟩
def r_take (K : PySem.W.Frag) : Rel := fun ds F W d W' => ∃ (dl sa : Addr) (ns : List Int) (k : Nat) (many : Int), ds = [.ow dl, .int many] ∧ (0 < many ∧ ns.length ≤ 63) ∧ W dl = some (.lst [.ref sa, .int k]) ∧ Rep F (.ref sa) (eZ K ns) ∧ d = .int (tk ns k many) ∧ W' = upd W dl (.lst [.ref sa, .int ((k : Int) + 1)])
abbrev s27 : Stmt := topS 27
theorem sc27 : FnScope ["draw", "many"] ["draw", "many"] (defScope s27) := ⟨rfl, rfl, rfl, by decide +kernel, rfl, by decide +kernel, by decide +kernel⟩
theorem d_take (T : Txt K mg) (C__law_number : FnD P w K mg base 1 "_law_number" ["script", "index"] (relP (r__law_number K))) {f : Addr} {fd : FuncData} (Fu : Fun K "_law_take" "_law_take" s27 f fd) : FnOk P w K mg base CX0 2 f fd ["draw", "many"] (spG (r_take K)) := by
  refine fn_ok Fu sc27 (fun ds F W d W' h => by obtain ⟨_, _, _, _, _, rfl, _⟩ := h; rfl) (fun cdv A outer s H E hr ds W d W' vs F h hv => ?_)
  have nd_ := sc27.nd
  obtain ⟨dl, sa, ns, k, many, rfl, ⟨hm, hz⟩, hw, rs, rfl, rfl⟩ := h
  cases hv with | @cons v_draw _ _ _ h_draw hv => ?_
  cases hv with | @cons v_many _ _ _ h_many hv => ?_
  cases hv
  cases h_draw
  cases h_many
  refine bl_augL (j := 1) (m := k) (m2 := 1) (ev_var (i := 0) rfl (.ow _)) ev_int hw rfl ev_int ?_
  refine bl_ret (ev_mod (ev_bty T.int cl_int (ea_cons (ev_call C__law_number hr (ea_cons (ev_ixW (ev_var (i := 0) rfl (.ow _)) ev_int upd_same rfl rs) (ea_cons (ev_bty T.int cl_int (ea_cons (ev_ixW (ev_var (i := 0) rfl (.ow _)) ev_int upd_same rfl (.int _)) ea_nil) rfl) ea_nil)) ⟨ns, (k : Int) + 1, ⟨by omega, hz⟩, rfl, rfl⟩) ea_nil) rfl) (ev_var (i := 1) rfl (.int _)) hm) ⟨rfl, rfl⟩

def r_pick (K : PySem.W.Frag) : Rel := fun ds F W d W' => ∃ (dl sa : Addr) (ns : List Int) (k : Nat) (items : List Str), ds = [.ow dl, eR false D.str items] ∧ (items ≠ [] ∧ ns.length ≤ 63) ∧ W dl = some (.lst [.ref sa, .int k]) ∧ Rep F (.ref sa) (eZ K ns) ∧ d = .str (ixI ("" : Str) items (tk ns k items.length)) ∧ W' = upd W dl (.lst [.ref sa, .int ((k : Int) + 1)])
abbrev s28 : Stmt := topS 28
theorem sc28 : FnScope ["draw", "items"] ["draw", "items"] (defScope s28) := ⟨rfl, rfl, rfl, by decide +kernel, rfl, by decide +kernel, by decide +kernel⟩
theorem d_pick (T : Txt K mg) (C_take : FnD P w K mg base 2 "_law_take" ["draw", "many"] (r_take K)) {f : Addr} {fd : FuncData} (Fu : Fun K "_law_pick" "_law_pick" s28 f fd) : FnOk P w K mg base CX0 3 f fd ["draw", "items"] (spG (r_pick K)) := by
  refine fn_ok Fu sc28 (fun ds F W d W' h => by obtain ⟨_, _, _, _, _, rfl, _⟩ := h; rfl) (fun cdv A outer s H E hr ds W d W' vs F h hv => ?_)
  have nd_ := sc28.nd
  obtain ⟨dl, sa, ns, k, items, rfl, ⟨hm, hz⟩, hw, rs, rfl, rfl⟩ := h
  cases hv with | @cons v_draw _ _ _ h_draw hv => ?_
  cases hv with | @cons v_items _ _ _ h_items hv => ?_
  cases hv
  cases h_draw
  have hl := List.length_pos_iff.mpr hm
  have ht := tk_in ns k (many := (items.length : Int)) (by omega)
  refine bl_ret (ev_ix (ev_var (i := 1) rfl h_items) (ev_callG C_take hr (ea_cons (ev_var (i := 0) rfl (.ow _)) (ea_cons (ev_blt T.len cl_lenR (ea_cons (ev_var (i := 1) rfl h_items) ea_nil) rfl) ea_nil)) (fun F1 e => ⟨dl, sa, ns, k, (items.length : Int), rfl, ⟨by omega, hz⟩, hw, rs.mono e, rfl, rfl⟩)) (ixI_at (d := ("" : Str)) (by omega))) ⟨rfl, rfl⟩
section
variable {X : Cx} {σ : L2.St} {F W : Hp} {e a : Expr} {p pos : Pos} {dl sa : Addr} {k : Nat} {many : Int} {items : List Str} {ns : List Int} {W0 : Hp}
theorem ev_take (C : FnD X.prog X.w X.K X.mg X.base 2 "_law_take" ["draw", "many"] (r_take X.K)) (hr : Room 2 X.A) (ha : EvS X a σ F (WK W dl sa k) (.ow dl) (WK W dl sa k)) (he : EvS X e σ F (WK W dl sa k) (.int many) (WK W dl sa k)) (hm : 0 < many) (hz : ns.length ≤ 63) (rs : Rep F (.ref sa) (eZ X.K ns)) (hg : Gl X "_law_take" := by rfl)
    (h1 : starEach [a, e] X.env = (false, eval a X.env) :: starEach [e] X.env := by rfl) (h2 : starEach [e] X.env = (false, eval e X.env) :: starEach [] X.env := by rfl) (hpl : (backTo pos (starEach [e] X.env)).any (·.1) = false := by rfl) :
    EvS X (.Call (.Name "_law_take" p) [a, e] [] pos) σ F (WK W dl sa k) (.int (tk ns k many)) (WK W dl sa (k + 1)) :=
  ev_callG C hr (ea_cons ha (ea_cons he ea_nil h2) h1) (fun F1 ex => ⟨dl, sa, ns, k, many, rfl, ⟨hm, hz⟩, WK_at, rs.mono ex, rfl, WK_next.symm⟩) hg (by decide) h1 hpl
theorem ev_pick (C : FnD X.prog X.w X.K X.mg X.base 3 "_law_pick" ["draw", "items"] (r_pick X.K)) (hr : Room 3 X.A) (ha : EvS X a σ F W0 (.ow dl) W0) (he : EvS X e σ F W0 (eR false D.str items) (WK W dl sa k)) (hm : items ≠ []) (hz : ns.length ≤ 63) (rs : Rep F (.ref sa) (eZ X.K ns)) (hg : Gl X "_law_pick" := by rfl)
    (h1 : starEach [a, e] X.env = (false, eval a X.env) :: starEach [e] X.env := by rfl) (h2 : starEach [e] X.env = (false, eval e X.env) :: starEach [] X.env := by rfl) (hpl : (backTo pos (starEach [e] X.env)).any (·.1) = false := by rfl) :
    EvS X (.Call (.Name "_law_pick" p) [a, e] [] pos) σ F W0 (.str (ixI ("" : Str) items (tk ns k items.length))) (WK W dl sa (k + 1)) :=
  ev_callG C hr (ea_cons ha (ea_cons he ea_nil h2) h1) (fun F1 ex => ⟨dl, sa, ns, k, items, rfl, ⟨hm, hz⟩, WK_at, rs.mono ex, rfl, WK_next.symm⟩) hg (by decide) h1 hpl
end

end
end B
set_option Elab.async false
set_option linter.all false
set_option maxRecDepth 100000
set_option maxHeartbeats 2000000
namespace B
open PySem PySem.Spec PyProof.Rows L2 Z
section
variable {W W0 : Hp} {dl ml sa : Addr} {k : Nat} {o o2 : HO}
theorem wk_own (h : dl ≠ ml) : WK (upd W0 ml o) dl sa k ml = some o := by unfold WK; rw [upd_ne (Ne.symm h), upd_same]
theorem wk_put (h : dl ≠ ml) : upd (WK (upd W0 ml o) dl sa k) ml o2 = WK (upd W0 ml o2) dl sa k := upd2_put h
theorem wk_del (h : dl ≠ ml) (hm : W0 ml = none) : del (WK (upd W0 ml o) dl sa k) ml = WK W0 dl sa k := by
  funext x
  unfold del WK
  by_cases e1 : x = ml
  · subst e1; rw [if_pos rfl, upd_ne (Ne.symm h)]; exact hm.symm
  rw [if_neg e1]
  by_cases e2 : x = dl
  · subst e2; rw [upd_same, upd_same]
  · rw [upd_ne e2, upd_ne e2, upd_ne e1]
theorem wk_in (h : dl ≠ ml) (hw : W0 dl = some (.lst [.ref sa, .int (k : Int)])) : upd W0 ml o = WK (upd W0 ml o) dl sa k := by
  funext x
  unfold WK
  by_cases e : x = dl
  · subst e; rw [upd_same, upd_ne h]; exact hw
  · rw [upd_ne e]
end
/-- what is drawn -/
def evStep (ns : List Int) (s : List Ev × List Int × Nat) : List Ev × List Int × Nat :=
  if (!decide (tk ns (s.2.2 + 1) 4 ∈ s.2.1)) = true then
    (s.1 ++ [if (decide (tk ns s.2.2 7 < 2)) = true then (ixI ("" : Str) ["answer", "stop"] (tk ns s.2.2 7), tk ns (s.2.2 + 1) 4, none) else (ixI ("" : Str) ["read", "write"] (tk ns (s.2.2 + 2) 2), tk ns (s.2.2 + 1) 4, some (ixI ("" : Str) ["a", "b"] (tk ns (s.2.2 + 3) 2)))],
      s.2.1 ++ (if (decide (tk ns s.2.2 7 < 2)) = true then [tk ns (s.2.2 + 1) 4] else []), if (decide (tk ns s.2.2 7 < 2)) = true then s.2.2 + 2 else s.2.2 + 4)
  else (s.1, s.2.1, s.2.2 + 2)
def evRun (ns : List Int) (k : Nat) : Nat → List Ev × List Int × Nat
  | 0 => ([], [], k + 1)
  | i + 1 => evStep ns (evRun ns k i)
def evOf (ns : List Int) (k : Nat) : List Ev × List Int × Nat := evRun ns k (tk ns k 15).toNat
theorem evRun_len (ns : List Int) (k i : Nat) : (evRun ns k i).1.length ≤ i ∧ (evRun ns k i).2.1.length ≤ i := by
  induction i with
  | zero => exact ⟨Nat.le_refl _, Nat.le_refl _⟩
  | succ i ih =>
    show (evStep ns (evRun ns k i)).1.length ≤ i + 1 ∧ (evStep ns (evRun ns k i)).2.1.length ≤ i + 1
    unfold evStep
    split
    · refine ⟨by rw [List.length_append]; have := ih.1; simp only [List.length_cons, List.length_nil]; omega, ?_⟩
      rw [List.length_append]
      have := ih.2
      split <;> simp only [List.length_cons, List.length_nil] <;> omega
    · have := ih.1; have := ih.2; exact ⟨by show (evRun ns k i).1.length ≤ _; omega, by show (evRun ns k i).2.1.length ≤ _; omega⟩
def r_events (K : PySem.W.Frag) : Rel := fun ds F W d W' => ∃ (dl sa : Addr) (ns : List Int) (k : Nat), ds = [.ow dl] ∧ ns.length ≤ 63 ∧ W dl = some (.lst [.ref sa, .int k]) ∧ Rep F (.ref sa) (eZ K ns) ∧ d = eR false eEv (evOf ns k).1 ∧ W' = WK W dl sa (evOf ns k).2.2
section
variable {P : Program} {w : World} {K : PySem.W.Frag} {mg : Str → Option Value} {base : Heap}
abbrev s29 : Stmt := topS 29
abbrev N29 : List Str := ["draw", "events", "ended", "turn", "way", "name"]
theorem sc29 : FnScope N29 ["draw"] (defScope s29) := ⟨rfl, rfl, rfl, by decide +kernel, rfl, by decide +kernel, by decide +kernel⟩
theorem d_events (T : Txt K mg) (C_take : FnD P w K mg base 2 "_law_take" ["draw", "many"] (r_take K)) (C_pick : FnD P w K mg base 3 "_law_pick" ["draw", "items"] (r_pick K)) {f : Addr} {fd : FuncData} (Fu : Fun K "_law_events" "_law_events" s29 f fd) : FnOk P w K mg base CX0 4 f fd ["draw"] (spG (r_events K)) := by
  refine fn_ok Fu sc29 (fun ds F W d W' h => by obtain ⟨_, _, _, _, rfl, _⟩ := h; rfl) (fun cdv A outer s H E hr ds W d W' vs F h hv => ?_)
  have nd_ := sc29.nd
  obtain ⟨dl, sa, ns, k, rfl, hz_, hw, h_sa, rfl, rfl⟩ := h
  cases hv with | @cons v_draw _ _ _ h_draw hv => ?_
  cases hv
  cases h_draw
  refine bl_par2C (i := 1) (j := 2) ?_
  refine ec_N (en_lst ea_nil (by simp)) (fun le vs0 F1 e1 h_ev wn => ?_)
  replace h_sa := h_sa.mono e1
  refine ec_S (ev_lstR (f := D.int) [] ea_nilR (by simp)) (fun v_en F2 e2 h_en => ?_)
  replace h_sa := h_sa.mono e2
  replace h_ev : Reps F2 vs0 (([] : List Ev).map eEv) := h_ev.mono e2
  have ne_ : dl ≠ le := fun e => by rw [← e, hw] at wn; cases wn
  rw [wk_in ne_ hw]
  have h15 := tk_in ns k (many := 15) (by decide)
  refine bl_for (n := (tk ns k 15).toNat) (W1 := WK (upd W le (.lst vs0)) dl sa (k + 1)) (ei_range1 T.range (ea_cons (ev_take C_take (hr.mono (by decide)) (ev_var (i := 0) rfl (.ow _)) ev_int (by decide) hz_ h_sa) ea_nil) (by omega) (by omega)) (by rw [List.length_map, rg_len]; simp)
    (fun i σ' F' W' => ∃ (v_en : V) (vs : List V) (o_turn o_way o_name : Option V), σ' = [some (.ref dl), some (.ref le), some v_en, o_turn, o_way, o_name] ∧ Rep F' v_en (eR false D.int (evRun ns k i).2.1) ∧ Reps F' vs ((evRun ns k i).1.map eEv) ∧ W' = WK (upd W le (.lst vs)) dl sa (evRun ns k i).2.2)
    (fun F3 e3 => ⟨_, _, _, _, _, rfl, h_en.mono e3, h_ev.mono e3, rfl⟩) (fun i d h σ' F3 W3 e3 J v F4 e4 r => ?_) (fun σ' F3 W3 e3 J => ?_)
  · rw [List.getElem?_map, Option.map_eq_some_iff] at h
    obtain ⟨x, hx, rfl⟩ := h
    have hi15 : i < 15 := by have := (List.getElem?_eq_some_iff.mp hx).1; rw [rg_len] at this; omega
    obtain ⟨v_en, vs, o1, o2, o3, rfl, h_en, h_ev, rfl⟩ := J
    obtain ⟨hl1, hl2⟩ := evRun_len ns k i
    have estep : evRun ns k (i + 1) = evStep ns (evRun ns k i) := rfl
    generalize hS : evRun ns k i = S at h_en h_ev hl1 hl2 estep
    obtain ⟨evs, ended, kk⟩ := S
    dsimp only at h_en h_ev hl1 hl2 ⊢
    cases r
    replace h_en := h_en.mono e4
    replace h_ev := h_ev.mono e4
    replace h_sa := (h_sa.mono e3).mono e4
    have hw7 := tk_in ns kk (many := 7) (by decide)
    refine tg_name (i := 3) ?_
    refine bl_par2 (i := 4) (j := 5) (ea_cons (ev_take (k := kk) C_take (hr.mono (by decide)) (ev_var (i := 0) rfl (.ow _)) ev_int (by decide) hz_ h_sa) (ea_cons (ev_take C_take (hr.mono (by decide)) (ev_var (i := 0) rfl (.ow _)) ev_int (by decide) hz_ h_sa) ea_nil)) (fun v1 v2 F5 e5 h1 h2 => ?_)
    cases h1; cases h2
    replace h_en := h_en.mono e5
    replace h_ev := h_ev.mono e5
    replace h_sa := h_sa.mono e5
    refine bl_when (q := !decide (tk ns (kk + 1) 4 ∈ ended)) (et_cm (ev_var (i := 5) rfl (.int _)) (ev_var (i := 2) rfl h_en) (cm_ni (f := D.int) (x := tk ns (kk + 1) 4) (xs := ended) hr lw_int) (by with_unfolding_all rfl)) (fun hq => ?_) (fun hq => ?_)
    · refine bl_asg (i := 2) (ev_catR (ev_var (i := 2) rfl h_en) (ev_if (f := eR false D.int) (q := decide (tk ns kk 7 < 2)) (x := [tk ns (kk + 1) 4]) (y := []) (et_cm (ev_var (i := 4) rfl (.int _)) ev_int cm_lt) (fun _ => ev_lstR [tk ns (kk + 1) 4] (ea_consR (f := D.int) (x := tk ns (kk + 1) 4) (ev_var (i := 5) rfl (.int _)) ea_nilR) (by simp)) (fun _ => ev_lstR [] ea_nilR (by simp))) (by split <;> simp only [List.length_cons, List.length_nil] <;> omega)) (fun v_en2 F6 e6 h_en2 => ?_)
      replace h_ev := h_ev.mono e6
      replace h_sa := h_sa.mono e6
      have hlen : vs.length < 100000 := by rw [h_ev.length, List.length_map]; omega
      by_cases hc : tk ns kk 7 < 2
      · have hq2 : decide (tk ns kk 7 < 2) = true := decide_eq_true hc
        refine bl_app (W1 := WK (upd W le (.lst vs)) dl sa (kk + 1 + 1)) (d := eEv (ixI ("" : Str) ["answer", "stop"] (tk ns kk 7), tk ns (kk + 1) 4, none)) (ev_var (i := 1) rfl (.ow _)) (ev_is (ev_ifW (Wa := WK (upd W le (.lst vs)) dl sa (kk + 1 + 1)) (Wb := WK (upd W le (.lst vs)) dl sa (kk + 1 + 1)) (q := true) (f := eEv) (x := (ixI ("" : Str) ["answer", "stop"] (tk ns kk 7), tk ns (kk + 1) 4, none)) (y := ("", 0, none)) (et_is (et_cm (ev_var (i := 4) rfl (.int _)) ev_int cm_lt) hq2)
          (fun _ => ev_e2t (ev_ix (f := D.str) (ev_tupR (f := D.str) ["answer", "stop"] (ea_consR (f := D.str) (x := ("answer" : Str)) ev_str (ea_consR (f := D.str) (x := ("stop" : Str)) ev_str ea_nilR)) (by simp)) (ev_var (i := 4) rfl (.int _)) (ixI_at (d := ("" : Str)) (by simp only [List.length_cons, List.length_nil]; omega))) (ev_var (i := 5) rfl (.int _))) (fun h => absurd h (by decide))) rfl) (wk_own ne_) hlen (wk_own ne_) (fun v F7 e7 r7 => ?_)
        rw [wk_put ne_]
        refine bl_goes (bl_nil ⟨v_en2, vs ++ [v], _, _, _, rfl, ?_, ?_, ?_⟩)
        · rw [estep]; unfold evStep; rw [if_pos hq]; exact h_en2.mono e7
        · rw [estep]; unfold evStep; rw [if_pos hq, hq2, if_pos rfl]
          have := (h_ev.mono e7).snoc r7
          rw [List.map_append]; exact this
        · rw [estep]; unfold evStep; rw [if_pos hq, hq2, if_pos rfl]; rfl
      · have hq2 : decide (tk ns kk 7 < 2) = false := decide_eq_false hc
        have p1 := tk_in ns (kk + 1 + 1) (many := 2) (by decide)
        have p2 := tk_in ns (kk + 1 + 1 + 1) (many := 2) (by decide)
        refine bl_app (W1 := WK (upd W le (.lst vs)) dl sa (kk + 1 + 1 + 1 + 1)) (d := eEv (ixI ("" : Str) ["read", "write"] (tk ns (kk + 1 + 1) 2), tk ns (kk + 1) 4, some (ixI ("" : Str) ["a", "b"] (tk ns (kk + 1 + 1 + 1) 2)))) (ev_var (i := 1) rfl (.ow _)) (ev_is (ev_ifW (Wa := WK (upd W le (.lst vs)) dl sa (kk + 1 + 1)) (Wb := WK (upd W le (.lst vs)) dl sa (kk + 1 + 1 + 1 + 1)) (q := false) (f := eEv) (x := ("", 0, none)) (y := (ixI ("" : Str) ["read", "write"] (tk ns (kk + 1 + 1) 2), tk ns (kk + 1) 4, some (ixI ("" : Str) ["a", "b"] (tk ns (kk + 1 + 1 + 1) 2)))) (et_is (et_cm (ev_var (i := 4) rfl (.int _)) ev_int cm_lt) hq2)
          (fun h => absurd h (by decide)) (fun _ => ev_is (ev_tup (ea_cons (ev_pick (k := kk + 1 + 1) (items := ["read", "write"]) C_pick (hr.mono (by decide)) (ev_var (i := 0) rfl (.ow _)) (ev_lstR (f := D.str) ["read", "write"] (ea_consR (f := D.str) (x := ("read" : Str)) ev_str (ea_consR (f := D.str) (x := ("write" : Str)) ev_str ea_nilR)) (by simp)) (by simp) hz_ h_sa) (ea_cons (ev_var (i := 5) rfl (.int _)) (ea_cons (ev_pick (k := kk + 1 + 1 + 1) (items := ["a", "b"]) C_pick (hr.mono (by decide)) (ev_var (i := 0) rfl (.ow _)) (ev_lstR (f := D.str) ["a", "b"] (ea_consR (f := D.str) (x := ("a" : Str)) ev_str (ea_consR (f := D.str) (x := ("b" : Str)) ev_str ea_nilR)) (by simp)) (by simp) hz_ h_sa) ea_nil))) (by simp)) rfl)) rfl) (wk_own ne_) hlen (wk_own ne_) (fun v F7 e7 r7 => ?_)
        rw [wk_put ne_]
        refine bl_goes (bl_nil ⟨v_en2, vs ++ [v], _, _, _, rfl, ?_, ?_, ?_⟩)
        · rw [estep]; unfold evStep; rw [if_pos hq]; exact h_en2.mono e7
        · rw [estep]; unfold evStep; rw [if_pos hq, hq2, if_neg Bool.false_ne_true]
          have := (h_ev.mono e7).snoc r7
          rw [List.map_append]; exact this
        · rw [estep]; unfold evStep; rw [if_pos hq, hq2, if_neg Bool.false_ne_true]; rfl
    · have est2 : evRun ns k (i + 1) = (evs, ended, kk + 2) := by rw [estep]; unfold evStep; rw [hq, if_neg Bool.false_ne_true]
      exact bl_nil ⟨_, _, _, _, _, rfl, by rw [est2]; exact h_en, by rw [est2]; exact h_ev, by rw [est2]⟩
  · obtain ⟨v_en, vs, o1, o2, o3, rfl, h_en, h_ev, rfl⟩ := J
    refine bl_freeze (l := le) (wk_own ne_) h_ev (by rw [List.length_map]; have := (evRun_len ns k (tk ns k 15).toNat).1; omega) (fun F4 e4 hf => ?_)
    rw [wk_del ne_ wn]
    exact bl_ret (ev_var (i := 1) rfl hf) ⟨rfl, rfl⟩
end
end B
set_option Elab.async false
set_option linter.all false
set_option maxRecDepth 100000
set_option maxHeartbeats 1000000
namespace B
open PySem PySem.Spec PyProof.Rows L2 Z
section
variable {P : Program} {w : World} {K : PySem.W.Frag} {mg : Str → Option Value} {base : Heap}

def m__law_read (events : (List Ev)) : (List (Int × Int × (Option Int))) := (((enumT events)).foldl (fun (s2 : (List (Int × Int × (Option Int)))) (x3 : (Int × Ev)) => (if (decide (((x3).2).1 = ("read" : Str))) = true then ((s2 ++ [((x3).1, ((x3).2).2.1, (if (!decide (((((cutL events none (some (x3).1))).filter fun x18 => ((decide ((x18).1 = ("write" : Str))) && ((decide ((pgE (x18)) = (pgE ((x3).2)))) && (!(decide ((x18).2.1 ∈ ((((cutL events none (some (x3).1))).filter fun x14 => (decide ((x14).1 = ("stop" : Str)))).map fun x14 => (x14).2.1))))))).map fun x18 => (x18).2.1) = ([] : List Int))) = true then (some (ixI 0 ((((cutL events none (some (x3).1))).filter fun x18 => ((decide ((x18).1 = ("write" : Str))) && ((decide ((pgE (x18)) = (pgE ((x3).2)))) && (!(decide ((x18).2.1 ∈ ((((cutL events none (some (x3).1))).filter fun x14 => (decide ((x14).1 = ("stop" : Str)))).map fun x14 => (x14).2.1))))))).map fun x18 => (x18).2.1) (-(1 : Int)))) else none))])) else (s2))) (([] : List (Int × Int × (Option Int)))))
def r__law_read : List D → D → Prop := fun ds d => ∃ (t : Bool) (events : (List Ev)), (Ok events) ∧ ds = [(eR t eEv) events] ∧ d = (eR false (eP3 D.int D.int (eO D.int))) (m__law_read events)
abbrev s30 : Stmt := topS 30
abbrev N30 : List Str := ["events", "found", "at", "event", "gone", "late", "row"]
theorem sc30 : FnScope N30 ["events"] (defScope s30) := ⟨rfl, rfl, rfl, by decide +kernel, rfl, by decide +kernel, by decide +kernel⟩
theorem d__law_read (T : Txt K mg)  {f : Addr} {fd : FuncData} (Fu : Fun K "_law_read" "_law_read" s30 f fd) : FnOk P w K mg base CX0 1 f fd ["events"] (spG (relP r__law_read)) := by
  refine fn_ok Fu sc30 (fun ds F W d W' h => by obtain ⟨⟨_, _, _, rfl, _⟩, _⟩ := h; rfl) (fun cdv A outer s H E hr ds W d W' vs F h hv => ?_)
  have nd_ := sc30.nd
  obtain ⟨⟨t, events, hp_, rfl, rfl⟩, rfl⟩ := h
  cases hv with | @cons v_events _ _ _ h_events hv => ?_
  cases hv
  have hl_events := rep_len h_events
  refine bl_asgN (i := 1) (en_lst ea_nil (by simp)) (fun l_found vs_found F_ e1 h_found wn_found => ?_)
  replace h_found : Reps F_ vs_found ((([] : List (Int × Int × (Option Int)))).map (eP3 D.int D.int (eO D.int))) := h_found
  replace h_events := h_events.mono e1
  refine bl_forK (xs := (enumT events)) (f := (eP D.int eEv)) (ei_enumR T.enumerate (ev_var (i := 0) rfl h_events)) (fun (s2 : (List (Int × Int × (Option Int)))) (x3 : (Int × Ev)) => (if (decide (((x3).2).1 = ("read" : Str))) = true then ((s2 ++ [((x3).1, ((x3).2).2.1, (if (!decide (((((cutL events none (some (x3).1))).filter fun x18 => ((decide ((x18).1 = ("write" : Str))) && ((decide ((pgE (x18)) = (pgE ((x3).2)))) && (!(decide ((x18).2.1 ∈ ((((cutL events none (some (x3).1))).filter fun x14 => (decide ((x14).1 = ("stop" : Str)))).map fun x14 => (x14).2.1))))))).map fun x18 => (x18).2.1) = ([] : List Int))) = true then (some (ixI 0 ((((cutL events none (some (x3).1))).filter fun x18 => ((decide ((x18).1 = ("write" : Str))) && ((decide ((pgE (x18)) = (pgE ((x3).2)))) && (!(decide ((x18).2.1 ∈ ((((cutL events none (some (x3).1))).filter fun x14 => (decide ((x14).1 = ("stop" : Str)))).map fun x14 => (x14).2.1))))))).map fun x18 => (x18).2.1) (-(1 : Int)))) else none))])) else (s2))) (([] : List (Int × Int × (Option Int)))) (fun i_ (s_ : (List (Int × Int × (Option Int)))) σ_ F_ W_ => ∃ (o_at : Option V) (o_event : Option V) (o_gone : Option V) (o_row : Option V) (vs_found : List V), σ_ = [some v_events, some (.ref l_found), o_at, o_event, o_gone, none, o_row] ∧ Reps F_ vs_found ((s_).map (eP3 D.int D.int (eO D.int))) ∧ (s_.length ≤ i_) ∧ W_ = (upd W' l_found (.lst vs_found))) (fun F_ e_ => ?_) (fun i7 x3 hi8 hx5 s2 σ_ F_ W_ e_ J_ v_ F2_ e2_ r6 => ?_) (fun σ_ F_ W_ e_ J_ => ?_)
  · replace h_events := h_events.mono e_
    replace h_found := h_found.mono e_
    exact ⟨_, _, _, _, _, rfl, h_found, (by first | omega | (simp; done)), rfl⟩
  · replace h_events := h_events.mono e_
    replace h_found := h_found.mono e_
    obtain ⟨o_at, o_event, o_gone, o_row, vs_found, rfl, h_found, inv4, rfl⟩ := J_
    replace h_events := h_events.mono e2_
    replace h_found := h_found.mono e2_
    have hx5m := enumT_mem hx5
    refine tg_tup (ds := [D.int ((x3).1), eEv ((x3).2)]) r6 (fun vs11 rr12 => ?_)
    cases rr12 with | @cons v_at _ _ _ h_at rr12 => ?_
    cases rr12 with | @cons v_event _ _ _ h_event rr12 => ?_
    cases rr12
    refine tgs_cons ?_
    cases h_at
    refine tg_name (i := 2) ?_
    refine tgs_cons ?_
    refine tg_name (i := 3) ?_
    refine tgs_nil ?_
    refine bl_when (q := (decide (((x3).2).1 = ("read" : Str)))) (et_cm (ev_e0 (ev_var (i := 3) rfl h_event) ev_int) ev_str (cm_eq (f := D.str) (x := ((x3).2).1) (y := ("read" : Str)) hr lw_str)) (fun hq13 => ?_) (fun hq13 => ?_)
    · refine bl_asg (i := 4) (ev_ofLc (lc_F (own := [("late", 5)]) (f := eEv) (g := D.int) (fun x14 => (decide ((x14).1 = ("stop" : Str)))) (fun x14 => (x14).2.1) (ei_row (ev_sl (l := none) (u := (some (x3).1)) (ev_var (i := 0) rfl h_events) eo_none (eo_some (ev_var (i := 2) rfl (.int _))))) (by exact Nat.le_trans (cut_len _ _ _) hl_events) (fun x14 hx15 v_ F1_ e_ r16 => by
      replace h_events := h_events.mono e_
      replace h_found := h_found.mono e_
      replace h_event := h_event.mono e_
      intro s_ H0_ C_ cl_ fp_
      refine tg_name (i := 5) ?_
      refine ⟨((wipe_set (by decide)).trans (wipe_wipe)), fun s_ H0_ C_ cl_ fp_ => ?_, fun ht_ s_ H0_ C_ cl_ fp_ => ?_⟩
      · exact ets_one (et_cm (ev_e0 (ev_var (i := 5) rfl r16) ev_int) ev_str (cm_eq (f := D.str) (x := (x14).1) (y := ("stop" : Str)) hr lw_str))
      · exact (ev_e1 (ev_var (i := 5) rfl r16) ev_int))) (ok := blkOk_by (N := N30) (sc := defScope s30) (by decide +kernel))) (fun v_gone F_ e17 h_gone => ?_)
      have hl_gone := rep_len h_gone
      replace h_events := h_events.mono e17
      replace h_found := h_found.mono e17
      replace h_event := h_event.mono e17
      refine bl_asgLc (i := 6) (lc_F (own := [("late", 5)]) (f := eEv) (g := D.int) (fun x18 => ((decide ((x18).1 = ("write" : Str))) && ((decide ((pgE (x18)) = (pgE ((x3).2)))) && (!(decide ((x18).2.1 ∈ ((((cutL events none (some (x3).1))).filter fun x14 => (decide ((x14).1 = ("stop" : Str)))).map fun x14 => (x14).2.1))))))) (fun x18 => (x18).2.1) (ei_row (ev_sl (l := none) (u := (some (x3).1)) (ev_var (i := 0) rfl h_events) eo_none (eo_some (ev_var (i := 2) rfl (.int _))))) (by exact Nat.le_trans (cut_len _ _ _) hl_events) (fun x18 hx19 v_ F1_ e_ r20 => by
      replace h_events := h_events.mono e_
      replace h_found := h_found.mono e_
      replace h_event := h_event.mono e_
      replace h_gone := h_gone.mono e_
      intro s_ H0_ C_ cl_ fp_
      refine tg_name (i := 5) ?_
      refine ⟨((wipe_set (by decide)).trans (wipe_wipe)), fun s_ H0_ C_ cl_ fp_ => ?_, fun ht_ s_ H0_ C_ cl_ fp_ => ?_⟩
      · exact ets_one (et_w (ew_and (et_cm (ev_e0 (ev_var (i := 5) rfl r20) ev_int) ev_str (cm_eq (f := D.str) (x := (x18).1) (y := ("write" : Str)) hr lw_str)) (fun hb21 => (ew_and (et_cm (ev_e2 (ev_var (i := 5) rfl r20) ev_int (by exact deed_gd (hp_.2.1 _ (mem_cut hx19)) (by have q := of_decide_eq_true hb21; rw [q]; simp))) (ev_e2 (ev_var (i := 3) rfl h_event) ev_int (by exact deed_gd (hp_.2.1 _ hx5m.2.2) (by have q := of_decide_eq_true hq13; rw [q]; simp))) (cm_eq (f := D.str) (x := (pgE (x18))) (y := (pgE ((x3).2))) hr lw_str)) (fun hb22 => (ew_and1 (et_cm (ev_e1 (ev_var (i := 5) rfl r20) ev_int) (ev_var (i := 4) rfl h_gone) (cm_ni (f := D.int) (x := (x18).2.1) (xs := ((((cutL events none (some (x3).1))).filter fun x14 => (decide ((x14).1 = ("stop" : Str)))).map fun x14 => (x14).2.1)) hr lw_int) (by with_unfolding_all rfl))))))))
      · exact (ev_e1 (ev_var (i := 5) rfl r20) ev_int))) (ok := blkOk_by (N := N30) (sc := defScope s30) (by decide +kernel)) (fun v_row F_ e23 h_row => ?_)
      have hl_row := rep_len h_row
      replace h_events := h_events.mono e23
      replace h_found := h_found.mono e23
      replace h_event := h_event.mono e23
      replace h_gone := h_gone.mono e23
      refine bl_app (ev_var (i := 1) rfl (.ow _)) (ev_is (d1 := (eP3 D.int D.int (eO D.int)) ((x3).1, ((x3).2).2.1, (if (!decide (((((cutL events none (some (x3).1))).filter fun x18 => ((decide ((x18).1 = ("write" : Str))) && ((decide ((pgE (x18)) = (pgE ((x3).2)))) && (!(decide ((x18).2.1 ∈ ((((cutL events none (some (x3).1))).filter fun x14 => (decide ((x14).1 = ("stop" : Str)))).map fun x14 => (x14).2.1))))))).map fun x18 => (x18).2.1) = ([] : List Int))) = true then (some (ixI 0 ((((cutL events none (some (x3).1))).filter fun x18 => ((decide ((x18).1 = ("write" : Str))) && ((decide ((pgE (x18)) = (pgE ((x3).2)))) && (!(decide ((x18).2.1 ∈ ((((cutL events none (some (x3).1))).filter fun x14 => (decide ((x14).1 = ("stop" : Str)))).map fun x14 => (x14).2.1))))))).map fun x18 => (x18).2.1) (-(1 : Int)))) else none))) (ev_tup (ea_cons (ev_var (i := 2) rfl (.int _)) (ea_cons (ev_e1 (ev_var (i := 3) rfl h_event) ev_int) (ea_cons (ev_if (f := (eO D.int)) (x := (some (ixI 0 ((((cutL events none (some (x3).1))).filter fun x18 => ((decide ((x18).1 = ("write" : Str))) && ((decide ((pgE (x18)) = (pgE ((x3).2)))) && (!(decide ((x18).2.1 ∈ ((((cutL events none (some (x3).1))).filter fun x14 => (decide ((x14).1 = ("stop" : Str)))).map fun x14 => (x14).2.1))))))).map fun x18 => (x18).2.1) (-(1 : Int))))) (y := none) (et_cm (ev_var (i := 6) rfl h_row) (ev_lstR ([] : List Int) (ea_nilR (f := D.int)) (by simp [rg_len, enumT_len]; try omega)) (cm_ne (f := (eR false D.int)) (x := ((((cutL events none (some (x3).1))).filter fun x18 => ((decide ((x18).1 = ("write" : Str))) && ((decide ((pgE (x18)) = (pgE ((x3).2)))) && (!(decide ((x18).2.1 ∈ ((((cutL events none (some (x3).1))).filter fun x14 => (decide ((x14).1 = ("stop" : Str)))).map fun x14 => (x14).2.1))))))).map fun x18 => (x18).2.1)) (y := ([] : List Int)) hr (Lw.row lw_int))) (fun hi24 => (ev_is (d1 := (eO D.int) (some (ixI 0 ((((cutL events none (some (x3).1))).filter fun x18 => ((decide ((x18).1 = ("write" : Str))) && ((decide ((pgE (x18)) = (pgE ((x3).2)))) && (!(decide ((x18).2.1 ∈ ((((cutL events none (some (x3).1))).filter fun x14 => (decide ((x14).1 = ("stop" : Str)))).map fun x14 => (x14).2.1))))))).map fun x18 => (x18).2.1) (-(1 : Int))))) (ev_ix (ev_var (i := 6) rfl h_row) (ev_neg ev_int) (ixI_at (d := 0) (by have q := hi24; simp only [Bool.not_eq_true', decide_eq_false_iff_not] at q; have := List.length_pos_iff.mpr q; omega))) rfl)) (fun hi25 => (ev_is (d1 := (eO D.int) none) ev_non rfl))) ea_nil))) (by simp)) rfl) upd_same (by have a1 := (List.getElem?_eq_some_iff.mp hi8).1; rw [enumT_len] at a1; rw [h_found.length, List.length_map]; have := inv4; omega) upd_same (fun v26 F_ e27 hv_ => ?_)
      replace h_events := h_events.mono e27
      replace h_found := h_found.mono e27
      replace h_event := h_event.mono e27
      replace h_gone := h_gone.mono e27
      replace h_row := h_row.mono e27
      replace h_found := h_found.snoc hv_
      rw [show ∀ (l : List (Int × Int × (Option Int))) (y : (Int × Int × (Option Int))), l.map (eP3 D.int D.int (eO D.int)) ++ [(eP3 D.int D.int (eO D.int)) y] = (l ++ [y]).map (eP3 D.int D.int (eO D.int)) from fun l y => by rw [List.map_append]; rfl] at h_found
      rw [upd_upd]
      refine bl_goes ?_
      exact bl_nil (by simp only [hq13, Bool.false_eq_true, if_true, if_false]; exact ⟨_, _, _, _, _, rfl, h_found, (by first | omega | (simp; omega)), rfl⟩)
    · exact bl_nil (by simp only [hq13, Bool.false_eq_true, if_true, if_false]; exact ⟨_, _, _, _, _, rfl, h_found, (by first | omega | (simp; omega)), rfl⟩)
  · replace h_events := h_events.mono e_
    replace h_found := h_found.mono e_
    obtain ⟨o_at, o_event, o_gone, o_row, vs_found, rfl, h_found, inv4, rfl⟩ := J_
    refine bl_freeze (ds := ((((enumT events)).foldl (fun (s2 : (List (Int × Int × (Option Int)))) (x3 : (Int × Ev)) => (if (decide (((x3).2).1 = ("read" : Str))) = true then ((s2 ++ [((x3).1, ((x3).2).2.1, (if (!decide (((((cutL events none (some (x3).1))).filter fun x18 => ((decide ((x18).1 = ("write" : Str))) && ((decide ((pgE (x18)) = (pgE ((x3).2)))) && (!(decide ((x18).2.1 ∈ ((((cutL events none (some (x3).1))).filter fun x14 => (decide ((x14).1 = ("stop" : Str)))).map fun x14 => (x14).2.1))))))).map fun x18 => (x18).2.1) = ([] : List Int))) = true then (some (ixI 0 ((((cutL events none (some (x3).1))).filter fun x18 => ((decide ((x18).1 = ("write" : Str))) && ((decide ((pgE (x18)) = (pgE ((x3).2)))) && (!(decide ((x18).2.1 ∈ ((((cutL events none (some (x3).1))).filter fun x14 => (decide ((x14).1 = ("stop" : Str)))).map fun x14 => (x14).2.1))))))).map fun x18 => (x18).2.1) (-(1 : Int)))) else none))])) else (s2))) (([] : List (Int × Int × (Option Int)))))).map (eP3 D.int D.int (eO D.int))) upd_same h_found (by rw [List.length_map]; have := inv4; rw [enumT_len] at this; omega) (fun F_ e28 hf_found => ?_)
    rw [del_upd wn_found]
    replace h_events := h_events.mono e28
    replace h_found : Rep F_ (.ref l_found) (eR false (eP3 D.int D.int (eO D.int)) ((((enumT events)).foldl (fun (s2 : (List (Int × Int × (Option Int)))) (x3 : (Int × Ev)) => (if (decide (((x3).2).1 = ("read" : Str))) = true then ((s2 ++ [((x3).1, ((x3).2).2.1, (if (!decide (((((cutL events none (some (x3).1))).filter fun x18 => ((decide ((x18).1 = ("write" : Str))) && ((decide ((pgE (x18)) = (pgE ((x3).2)))) && (!(decide ((x18).2.1 ∈ ((((cutL events none (some (x3).1))).filter fun x14 => (decide ((x14).1 = ("stop" : Str)))).map fun x14 => (x14).2.1))))))).map fun x18 => (x18).2.1) = ([] : List Int))) = true then (some (ixI 0 ((((cutL events none (some (x3).1))).filter fun x18 => ((decide ((x18).1 = ("write" : Str))) && ((decide ((pgE (x18)) = (pgE ((x3).2)))) && (!(decide ((x18).2.1 ∈ ((((cutL events none (some (x3).1))).filter fun x14 => (decide ((x14).1 = ("stop" : Str)))).map fun x14 => (x14).2.1))))))).map fun x18 => (x18).2.1) (-(1 : Int)))) else none))])) else (s2))) (([] : List (Int × Int × (Option Int))))))) := hf_found
    exact bl_ret (ev_var (i := 1) rfl h_found) ⟨rfl, rfl⟩
def m__law_wrong (events : (List Ev)) (is_dirty : Bool) : (Option Int) := (match lpR (fun (s9 : Unit) (x10 : (Int × Int × (Option Int))) => (((if ((!((x10).2.2).isNone) && (!decide ((x10).2.2 = (some (x10).2.1)))) = true then (if ((is_dirty && (!((tGet (tOf ((((enumT events)).filter fun x1 => (decide (((x1).2).1 = ("answer" : Str)))).map fun x1 => (((x1).2).2.1, (x1).1))) (((x10).2.2).getD 0)).isSome && (decide (((tGet (tOf ((((enumT events)).filter fun x1 => (decide (((x1).2).1 = ("answer" : Str)))).map fun x1 => (((x1).2).2.1, (x1).1))) (((x10).2.2).getD 0)).getD 0) < (x10).1))))) || ((!is_dirty) && ((tGet (tOf ((((enumT events)).filter fun x1 => (decide (((x1).2).1 = ("answer" : Str)))).map fun x1 => (((x1).2).2.1, (x1).1))) (x10).2.1).isSome && (!((tGet (tOf ((((enumT events)).filter fun x1 => (decide (((x1).2).1 = ("answer" : Str)))).map fun x1 => (((x1).2).2.1, (x1).1))) (((x10).2.2).getD 0)).isSome && (decide (((tGet (tOf ((((enumT events)).filter fun x1 => (decide (((x1).2).1 = ("answer" : Str)))).map fun x1 => (((x1).2).2.1, (x1).1))) (((x10).2.2).getD 0)).getD 0) < ((tGet (tOf ((((enumT events)).filter fun x1 => (decide (((x1).2).1 = ("answer" : Str)))).map fun x1 => (((x1).2).2.1, (x1).1))) (x10).2.1).getD 0)))))))) = true then (.error (some (x10).1)) else (.ok ())) else (.ok ()))) : Except (Option Int) Unit)) (m__law_read (events)) () with | .ok s9 => none | .error r_ => r_)
def r__law_wrong : List D → D → Prop := fun ds d => ∃ (t : Bool) (events : (List Ev)) (is_dirty : Bool), (Ok events) ∧ ds = [(eR t eEv) events, D.bl is_dirty] ∧ d = (eO D.int) (m__law_wrong events is_dirty)
abbrev s31 : Stmt := topS 31
abbrev N31 : List Str := ["events", "is_dirty", "answers", "at", "event", "one", "writer"]
theorem sc31 : FnScope N31 ["events", "is_dirty"] (defScope s31) := ⟨rfl, rfl, rfl, by decide +kernel, rfl, by decide +kernel, by decide +kernel⟩
theorem d__law_wrong (T : Txt K mg) (C__law_read : FnD P w K mg base 1 "_law_read" ["events"] (relP r__law_read)) {f : Addr} {fd : FuncData} (Fu : Fun K "_law_wrong" "_law_wrong" s31 f fd) : FnOk P w K mg base CX0 2 f fd ["events", "is_dirty"] (spG (relP r__law_wrong)) := by
  refine fn_ok Fu sc31 (fun ds F W d W' h => by obtain ⟨⟨_, _, _, _, rfl, _⟩, _⟩ := h; rfl) (fun cdv A outer s H E hr ds W d W' vs F h hv => ?_)
  have nd_ := sc31.nd
  obtain ⟨⟨t, events, is_dirty, hp_, rfl, rfl⟩, rfl⟩ := h
  cases hv with | @cons v_events _ _ _ h_events hv => ?_
  cases hv with | @cons v_is_dirty _ _ _ h_is_dirty hv => ?_
  cases hv
  have hl_events := rep_len h_events
  cases h_is_dirty
  refine bl_asg (i := 2) (ev_bty T.dict (cl_dict keI) (ea_cons (ev_ofLc (lc_F (own := [("at", 3), ("event", 4)]) (f := (eP D.int eEv)) (g := (eP D.int D.int)) (fun x1 => (decide (((x1).2).1 = ("answer" : Str)))) (fun x1 => (((x1).2).2.1, (x1).1)) (ei_enumR T.enumerate (ev_var (i := 0) rfl h_events)) (by first | assumption | omega | (simp only [List.length_map, enumT_len, rg_len]; omega) | (simp; done) | (simp; omega)) (fun x1 hx2 v_ F1_ e_ r3 => by
      replace h_events := h_events.mono e_
      have hx2m := enumT_mem hx2
      intro s_ H0_ C_ cl_ fp_
      refine tg_tup (ds := [D.int ((x1).1), eEv ((x1).2)]) r3 (fun vs6 rr7 => ?_)
      cases rr7 with | @cons v_at _ _ _ h_at rr7 => ?_
      cases rr7 with | @cons v_event _ _ _ h_event rr7 => ?_
      cases rr7
      refine tgs_cons ?_
      cases h_at
      refine tg_name (i := 3) ?_
      refine tgs_cons ?_
      refine tg_name (i := 4) ?_
      refine tgs_nil ?_
      refine ⟨((wipe_set (by decide)).trans ((wipe_set (by decide)).trans (wipe_wipe))), fun s_ H0_ C_ cl_ fp_ => ?_, fun ht_ s_ H0_ C_ cl_ fp_ => ?_⟩
      · exact ets_one (et_cm (ev_e0 (ev_var (i := 4) rfl h_event) ev_int) ev_str (cm_eq (f := D.str) (x := ((x1).2).1) (y := ("answer" : Str)) hr lw_str))
      · exact (ev_is (d1 := (eP D.int D.int) (((x1).2).2.1, (x1).1)) (ev_tup (ea_cons (ev_e1 (ev_var (i := 4) rfl h_event) ev_int) (ea_cons (ev_var (i := 3) rfl (.int _)) ea_nil)) (by simp)) rfl))) (ok := blkOk_by (N := N31) (sc := defScope s31) (by decide +kernel))) ea_nil) rfl) (fun v_answers F_ e8 h_answers => ?_)
  replace h_events := h_events.mono e8
  refine bl_forR (R := (Option Int)) (xs := (m__law_read (events))) (f := (eP3 D.int D.int (eO D.int))) (ei_row (ev_call C__law_read (hr.mono (by decide)) (ea_cons (ev_var (i := 0) rfl h_events) ea_nil) (⟨t, (events), (by first | assumption | exact hp_.1 | omega), rfl, rfl⟩))) (fun (s9 : Unit) (x10 : (Int × Int × (Option Int))) => (((if ((!((x10).2.2).isNone) && (!decide ((x10).2.2 = (some (x10).2.1)))) = true then (if ((is_dirty && (!((tGet (tOf ((((enumT events)).filter fun x1 => (decide (((x1).2).1 = ("answer" : Str)))).map fun x1 => (((x1).2).2.1, (x1).1))) (((x10).2.2).getD 0)).isSome && (decide (((tGet (tOf ((((enumT events)).filter fun x1 => (decide (((x1).2).1 = ("answer" : Str)))).map fun x1 => (((x1).2).2.1, (x1).1))) (((x10).2.2).getD 0)).getD 0) < (x10).1))))) || ((!is_dirty) && ((tGet (tOf ((((enumT events)).filter fun x1 => (decide (((x1).2).1 = ("answer" : Str)))).map fun x1 => (((x1).2).2.1, (x1).1))) (x10).2.1).isSome && (!((tGet (tOf ((((enumT events)).filter fun x1 => (decide (((x1).2).1 = ("answer" : Str)))).map fun x1 => (((x1).2).2.1, (x1).1))) (((x10).2.2).getD 0)).isSome && (decide (((tGet (tOf ((((enumT events)).filter fun x1 => (decide (((x1).2).1 = ("answer" : Str)))).map fun x1 => (((x1).2).2.1, (x1).1))) (((x10).2.2).getD 0)).getD 0) < ((tGet (tOf ((((enumT events)).filter fun x1 => (decide (((x1).2).1 = ("answer" : Str)))).map fun x1 => (((x1).2).2.1, (x1).1))) (x10).2.1).getD 0)))))))) = true then (.error (some (x10).1)) else (.ok ())) else (.ok ()))) : Except (Option Int) Unit)) () (fun (s_ : Unit) σ_ F_ W_ => ∃ (o_at : Option V) (o_one : Option V) (o_writer : Option V), σ_ = [some v_events, some (.bl is_dirty), some v_answers, o_at, none, o_one, o_writer] ∧ W_ = W') (fun F_ e_ => ?_) (fun x10 hx12 s9 σ_ F_ W_ e_ J_ v_ F2_ e2_ r13 => ?_) (fun s9 hl_ σ_ F_ W_ e_ J_ => ?_)
  · replace h_events := h_events.mono e_
    replace h_answers := h_answers.mono e_
    exact ⟨_, _, _, rfl, rfl⟩
  · replace h_events := h_events.mono e_
    replace h_answers := h_answers.mono e_
    obtain ⟨o_at, o_one, o_writer, rfl, rfl⟩ := J_
    replace h_events := h_events.mono e2_
    replace h_answers := h_answers.mono e2_
    refine tg_tup (ds := [D.int ((x10).1), D.int ((x10).2.1), (eO D.int) ((x10).2.2)]) r13 (fun vs19 rr20 => ?_)
    cases rr20 with | @cons v_at _ _ _ h_at rr20 => ?_
    cases rr20 with | @cons v_one _ _ _ h_one rr20 => ?_
    cases rr20 with | @cons v_writer _ _ _ h_writer rr20 => ?_
    cases rr20
    refine tgs_cons ?_
    cases h_at
    refine tg_name (i := 3) ?_
    refine tgs_cons ?_
    cases h_one
    refine tg_name (i := 5) ?_
    refine tgs_cons ?_
    refine tg_name (i := 6) ?_
    refine tgs_nil ?_
    refine bl_when (q := ((!((x10).2.2).isNone) && (!decide ((x10).2.2 = (some (x10).2.1))))) (et_w (ew_and (et_cm (ev_var (i := 6) rfl h_writer) ev_non (cm_isnotO (f := D.int) (x := (x10).2.2) (fun _ => rfl))) (fun hb21 => (ew_and1 (et_cm (ev_var (i := 6) rfl h_writer) (ev_is (d1 := (eO D.int) (some (x10).2.1)) (ev_var (i := 5) rfl (.int _)) rfl) (cm_ne (f := (eO D.int)) (x := (x10).2.2) (y := (some (x10).2.1)) hr (Lw.opt lw_int (fun _ => rfl) (fun _ => rfl)))))))) (fun hq22 => ?_) (fun hq22 => ?_)
    · refine bl_when (q := ((is_dirty && (!((tGet (tOf ((((enumT events)).filter fun x1 => (decide (((x1).2).1 = ("answer" : Str)))).map fun x1 => (((x1).2).2.1, (x1).1))) (((x10).2.2).getD 0)).isSome && (decide (((tGet (tOf ((((enumT events)).filter fun x1 => (decide (((x1).2).1 = ("answer" : Str)))).map fun x1 => (((x1).2).2.1, (x1).1))) (((x10).2.2).getD 0)).getD 0) < (x10).1))))) || ((!is_dirty) && ((tGet (tOf ((((enumT events)).filter fun x1 => (decide (((x1).2).1 = ("answer" : Str)))).map fun x1 => (((x1).2).2.1, (x1).1))) (x10).2.1).isSome && (!((tGet (tOf ((((enumT events)).filter fun x1 => (decide (((x1).2).1 = ("answer" : Str)))).map fun x1 => (((x1).2).2.1, (x1).1))) (((x10).2.2).getD 0)).isSome && (decide (((tGet (tOf ((((enumT events)).filter fun x1 => (decide (((x1).2).1 = ("answer" : Str)))).map fun x1 => (((x1).2).2.1, (x1).1))) (((x10).2.2).getD 0)).getD 0) < ((tGet (tOf ((((enumT events)).filter fun x1 => (decide (((x1).2).1 = ("answer" : Str)))).map fun x1 => (((x1).2).2.1, (x1).1))) (x10).2.1).getD 0))))))))) (et_w (ew_or (et_w (ew_and (et_val (ev_var (i := 1) rfl (.bl _))) (fun hb23 => (ew_and1 (et_not (et_w (ew_and (et_tin keI hr (ev_is (d1 := D.int (((x10).2.2).getD 0)) (ev_var (i := 6) rfl h_writer) (eO_get (by first | (have q_ := hq22; revert q_; cases hO_ : (x10).2.2 <;> simp) | assumption))) (ev_var (i := 2) rfl h_answers) (by with_unfolding_all rfl)) (fun hb24 => (ew_and1 (et_cm (ev_tsub keI hr (ev_var (i := 2) rfl h_answers) (ev_is (d1 := D.int (((x10).2.2).getD 0)) (ev_var (i := 6) rfl h_writer) (eO_get (by first | (have q_ := hq22; revert q_; cases hO_ : (x10).2.2 <;> simp) | assumption))) (oGet (by first | (have q_ := hb24; revert q_; cases hO_ : (tGet (tOf ((((enumT events)).filter fun x1 => (decide (((x1).2).1 = ("answer" : Str)))).map fun x1 => (((x1).2).2.1, (x1).1))) (((x10).2.2).getD 0)) <;> simp) | assumption))) (ev_var (i := 3) rfl (.int _)) cm_lt)))))))))) (fun hb25 => (ew_or1 (et_w (ew_and (et_not (et_val (ev_var (i := 1) rfl (.bl _)))) (fun hb26 => (ew_and (et_tin keI hr (ev_var (i := 5) rfl (.int _)) (ev_var (i := 2) rfl h_answers) (by with_unfolding_all rfl)) (fun hb27 => (ew_and1 (et_not (et_w (ew_and (et_tin keI hr (ev_is (d1 := D.int (((x10).2.2).getD 0)) (ev_var (i := 6) rfl h_writer) (eO_get (by first | (have q_ := hq22; revert q_; cases hO_ : (x10).2.2 <;> simp) | assumption))) (ev_var (i := 2) rfl h_answers) (by with_unfolding_all rfl)) (fun hb28 => (ew_and1 (et_cm (ev_tsub keI hr (ev_var (i := 2) rfl h_answers) (ev_is (d1 := D.int (((x10).2.2).getD 0)) (ev_var (i := 6) rfl h_writer) (eO_get (by first | (have q_ := hq22; revert q_; cases hO_ : (x10).2.2 <;> simp) | assumption))) (oGet (by first | (have q_ := hb28; revert q_; cases hO_ : (tGet (tOf ((((enumT events)).filter fun x1 => (decide (((x1).2).1 = ("answer" : Str)))).map fun x1 => (((x1).2).2.1, (x1).1))) (((x10).2.2).getD 0)) <;> simp) | (have q_ := hb25; revert q_; cases hO_ : (tGet (tOf ((((enumT events)).filter fun x1 => (decide (((x1).2).1 = ("answer" : Str)))).map fun x1 => (((x1).2).2.1, (x1).1))) (((x10).2.2).getD 0)) <;> simp) | assumption))) (ev_tsub keI hr (ev_var (i := 2) rfl h_answers) (ev_var (i := 5) rfl (.int _)) (oGet (by first | (have q_ := hb27; revert q_; cases hO_ : (tGet (tOf ((((enumT events)).filter fun x1 => (decide (((x1).2).1 = ("answer" : Str)))).map fun x1 => (((x1).2).2.1, (x1).1))) (x10).2.1) <;> simp) | assumption))) cm_lt)))))))))))))))) (fun hq29 => ?_) (fun hq29 => ?_)
      · exact bl_ret (ev_is (d1 := (eO D.int) (some (x10).1)) (ev_var (i := 3) rfl (.int _)) rfl) ⟨(some (x10).1), (by simp only [hq22, hq29, Bool.false_eq_true, if_true, if_false]), fun hl_ => by show _ = _ ∧ _; (try unfold m__law_wrong); rw [hl_]; exact ⟨rfl, rfl⟩⟩
      · refine bl_goes ?_
        exact bl_nil ⟨(), (by simp only [hq22, hq29, Bool.false_eq_true, if_true, if_false]), ⟨_, _, _, rfl, rfl⟩⟩
    · exact bl_nil ⟨(), (by simp only [hq22, Bool.false_eq_true, if_true, if_false]), ⟨_, _, _, rfl, rfl⟩⟩
  · replace h_events := h_events.mono e_
    replace h_answers := h_answers.mono e_
    obtain ⟨o_at, o_one, o_writer, rfl, rfl⟩ := J_
    (try unfold m__law_wrong)
    rw [hl_]
    exact bl_ret (ev_is (d1 := (eO D.int) none) ev_non rfl) ⟨rfl, rfl⟩
end
end B
set_option Elab.async false
set_option linter.all false
set_option maxRecDepth 100000
set_option maxHeartbeats 1000000
namespace B
open PySem PySem.Spec PyProof.Rows L2 Z
abbrev Rd3 := Int × Int × Option Int
theorem snoc_ind {α : Type} {P : List α → Prop} (h0 : P []) (h1 : ∀ l x, P l → P (l ++ [x])) : ∀ l, P l := by
  intro l
  have key : ∀ r : List α, P r.reverse := by
    intro r
    induction r with
    | nil => exact h0
    | cons x r ih => rw [List.reverse_cons]; exact h1 _ _ ih
  have := key l.reverse
  rwa [List.reverse_reverse] at this
theorem enum_snoc {α : Type} (l : List α) (x : α) : enumT (l ++ [x]) = enumT l ++ [((l.length : Int), x)] := by
  unfold enumT
  rw [List.zipIdx_append, List.map_append]
  simp
theorem cut_take {α : Type} (l : List α) (i : Int) (h0 : 0 ≤ i) (h : i ≤ l.length) : cutL l none (some i) = l.take i.toNat := by
  unfold cutL HT.sIx
  simp only [List.drop_zero]
  rw [if_neg (by omega)]
  congr 1
  omega
/-! Ok and its parts -/
theorem Ok.nil : Ok [] := ⟨by simp, fun _ h => (by cases h), List.Pairwise.nil⟩
theorem Ok.init {l : List Ev} {e : Ev} (h : Ok (l ++ [e])) : Ok l := by
  obtain ⟨h1, h2, h3⟩ := h
  exact ⟨by rw [List.length_append] at h1; omega, fun x hx => h2 x (List.mem_append_left _ hx), (List.pairwise_append.mp h3).1⟩
theorem Ok.last {l : List Ev} {e : Ev} (h : Ok (l ++ [e])) : gdE e ∧ ∀ b ∈ l, isEnd b = true → e.2.1 ≠ b.2.1 := by
  obtain ⟨h1, h2, h3⟩ := h
  exact ⟨h2 e (by simp), fun b hb hq => (List.pairwise_append.mp h3).2.2 b hb e (by simp) hq⟩
theorem Ok.snoc {l : List Ev} {e : Ev} (h : Ok l) (hz : l.length + 1 ≤ 30) (hg : gdE e) (hn : ∀ b ∈ l, isEnd b = true → e.2.1 ≠ b.2.1) : Ok (l ++ [e]) := by
  obtain ⟨h1, h2, h3⟩ := h
  refine ⟨by rw [List.length_append]; exact hz, fun x hx => ?_, List.pairwise_append.mpr ⟨h3, List.pairwise_singleton _ _, fun a ha b hb => ?_⟩⟩
  · rcases List.mem_append.mp hx with q | q
    · exact h2 x q
    · rw [List.mem_singleton.mp q]; exact hg
  · rw [List.mem_singleton.mp hb]; exact hn a ha
theorem Ok.sub {l m : List Ev} (h : Ok l) (s : List.Sublist m l) : Ok m := by
  obtain ⟨h1, h2, h3⟩ := h
  exact ⟨Nat.le_trans s.length_le h1, fun x hx => h2 x (s.subset hx), h3.sublist s⟩
/-! rows of writers -/
def goneOf (l : List Ev) : List Int := (l.filter fun x14 => (decide ((x14).1 = ("stop" : Str)))).map fun x14 => (x14).2.1
def rowOf (l : List Ev) (p : Str) : List Int := (l.filter fun x18 => ((decide ((x18).1 = ("write" : Str))) && ((decide ((pgE (x18)) = p)) && (!(decide ((x18).2.1 ∈ goneOf l)))))).map fun x18 => (x18).2.1
def lst (row : List Int) : Option Int := if (!decide (row = ([] : List Int))) = true then (some (ixI 0 row (-(1 : Int)))) else none
theorem ne_ws : ("write" : Str) ≠ ("stop" : Str) := by decide +kernel
theorem ne_wr : ("write" : Str) ≠ ("read" : Str) := by decide +kernel
theorem ne_wa : ("write" : Str) ≠ ("answer" : Str) := by decide +kernel
theorem ne_rs : ("read" : Str) ≠ ("stop" : Str) := by decide +kernel
theorem ne_ra : ("read" : Str) ≠ ("answer" : Str) := by decide +kernel
theorem ne_sa : ("stop" : Str) ≠ ("answer" : Str) := by decide +kernel
theorem isEnd_iff {e : Ev} : isEnd e = true ↔ e.1 = "answer" ∨ e.1 = "stop" := by
  unfold isEnd
  rw [decide_eq_true_iff]
  constructor
  · intro h
    rcases List.mem_cons.mp h with q | h
    · exact .inl q
    rcases List.mem_cons.mp h with q | h
    · exact .inr q
    · cases h
  · rintro (q | q) <;> rw [q] <;> simp
theorem gone_snoc (l : List Ev) (e : Ev) : goneOf (l ++ [e]) = if e.1 = "stop" then goneOf l ++ [e.2.1] else goneOf l := by
  unfold goneOf
  rw [List.filter_append, List.map_append]
  by_cases h : e.1 = "stop"
  · rw [if_pos h, List.filter_cons_of_pos (by rw [decide_eq_true h])]; rfl
  · rw [if_neg h, List.filter_cons_of_neg (by rw [decide_eq_false h]; exact Bool.false_ne_true)]; simp
theorem mem_gone {l : List Ev} {n : Int} (h : n ∈ goneOf l) : ∃ b ∈ l, b.1 = "stop" ∧ b.2.1 = n := by
  obtain ⟨b, hb, e⟩ := List.mem_map.mp h
  obtain ⟨h1, h2⟩ := List.mem_filter.mp hb
  exact ⟨b, h1, of_decide_eq_true h2, e⟩
theorem not_gone {l : List Ev} {e : Ev} (h : Ok (l ++ [e])) : e.2.1 ∉ goneOf l := fun q => by
  obtain ⟨b, hb, e1, e2⟩ := mem_gone q
  exact h.last.2 b hb (isEnd_iff.mpr (.inr e1)) e2.symm
theorem row_snoc {l : List Ev} {e : Ev} (h : Ok (l ++ [e])) (p : Str) : rowOf (l ++ [e]) p = if e.1 = "write" then (if pgE e = p then rowOf l p ++ [e.2.1] else rowOf l p) else if e.1 = "stop" then (rowOf l p).filter (fun x => !decide (x = e.2.1)) else rowOf l p := by
  unfold rowOf
  rw [gone_snoc]
  by_cases hw : e.1 = "write"
  · rw [if_pos hw, if_neg (by rw [hw]; exact ne_ws), List.filter_append, List.map_append]
    by_cases hp : pgE e = p
    · rw [if_pos hp, List.filter_cons_of_pos (by rw [decide_eq_true hw, decide_eq_true hp, decide_eq_false (not_gone h)]; rfl)]; rfl
    · rw [if_neg hp, List.filter_cons_of_neg (by rw [decide_eq_true hw, decide_eq_false hp]; exact Bool.false_ne_true)]; simp
  · rw [if_neg hw, List.filter_append, List.map_append]
    have e0 : (List.filter (fun x18 : Ev => ((decide ((x18).1 = ("write" : Str))) && ((decide ((pgE (x18)) = p)) && (!(decide ((x18).2.1 ∈ (if e.1 = "stop" then goneOf l ++ [e.2.1] else goneOf l))))))) [e]) = [] := by
      rw [List.filter_cons_of_neg (by rw [decide_eq_false hw]; exact Bool.false_ne_true)]; rfl
    rw [e0, List.map_nil, List.append_nil]
    by_cases hs : e.1 = "stop"
    · rw [if_pos hs, if_pos hs, List.filter_map, List.filter_filter]
      congr 1
      apply List.filter_congr
      intro x hx
      simp only [Function.comp_apply, List.mem_append, List.mem_singleton]
      rw [Bool.eq_iff_iff]
      simp only [Bool.and_eq_true, decide_eq_true_eq, Bool.not_eq_true', decide_eq_false_iff_not, not_or]
      constructor
      · rintro ⟨a, b, c, d⟩; exact ⟨d, a, b, c⟩
      · rintro ⟨d, a, b, c⟩; exact ⟨a, b, c, d⟩
    · rw [if_neg hs, if_neg hs]
/-! reads, by going back from each -/
def rdsP (evs : List Ev) : List Rd3 := ((enumT evs).filter fun x => decide (x.2.1 = ("read" : Str))).map fun x => (x.1, x.2.2.1, lst (rowOf (evs.take x.1.toNat) (pgE x.2)))
theorem rds_snoc (l : List Ev) (e : Ev) : rdsP (l ++ [e]) = rdsP l ++ if e.1 = "read" then [((l.length : Int), e.2.1, lst (rowOf l (pgE e)))] else [] := by
  unfold rdsP
  rw [enum_snoc, List.filter_append, List.map_append]
  congr 1
  · apply List.map_congr_left
    intro x hx
    have := enumT_mem (List.mem_filter.mp hx).1
    rw [List.take_append_of_le_length (by omega)]
  · by_cases h : e.1 = "read"
    · rw [if_pos h, List.filter_cons_of_pos (by exact decide_eq_true h)]
      show [((l.length : Int), e.2.1, lst (rowOf ((l ++ [e]).take ((l.length : Int)).toNat) (pgE e)))] = _
      rw [Int.toNat_natCast, List.take_left]
    · rw [if_neg h, List.filter_cons_of_neg (by show ¬ decide (e.1 = "read") = true; rw [decide_eq_false h]; exact Bool.false_ne_true)]; rfl
/-- append-if loops -/
theorem foldl_app {α β : Type} (p : α → Bool) (f : α → β) (xs : List α) (s0 : List β) : xs.foldl (fun s x => if p x = true then s ++ [f x] else s) s0 = s0 ++ (xs.filter p).map f := by
  induction xs generalizing s0 with
  | nil => simp
  | cons x xs ih =>
    rw [List.foldl_cons, ih]
    cases h : p x with
    | true => rw [if_pos rfl, List.filter_cons_of_pos h, List.map_cons, List.append_assoc]; rfl
    | false => rw [if_neg Bool.false_ne_true, List.filter_cons_of_neg (by rw [h]; exact Bool.false_ne_true)]
theorem law_read_eq (evs : List Ev) : m__law_read evs = rdsP evs := by
  have h := foldl_app (fun x3 : Int × Ev => decide (((x3).2).1 = ("read" : Str))) (fun x3 : Int × Ev => ((x3).1, ((x3).2).2.1, (if (!decide (((((cutL evs none (some (x3).1))).filter fun x18 => ((decide ((x18).1 = ("write" : Str))) && ((decide ((pgE (x18)) = (pgE ((x3).2)))) && (!(decide ((x18).2.1 ∈ ((((cutL evs none (some (x3).1))).filter fun x14 => (decide ((x14).1 = ("stop" : Str)))).map fun x14 => (x14).2.1))))))).map fun x18 => (x18).2.1) = ([] : List Int))) = true then (some (ixI 0 ((((cutL evs none (some (x3).1))).filter fun x18 => ((decide ((x18).1 = ("write" : Str))) && ((decide ((pgE (x18)) = (pgE ((x3).2)))) && (!(decide ((x18).2.1 ∈ ((((cutL evs none (some (x3).1))).filter fun x14 => (decide ((x14).1 = ("stop" : Str)))).map fun x14 => (x14).2.1))))))).map fun x18 => (x18).2.1) (-(1 : Int)))) else none))) (enumT evs) ([] : List Rd3)
  rw [List.nil_append] at h
  refine h.trans ?_
  unfold rdsP
  apply List.map_congr_left
  intro x hx
  have := enumT_mem (List.mem_filter.mp hx).1
  rw [cut_take _ _ this.1 (by omega)]
  rfl
/-! reads, with what was written kept -/
def rdStep (s3 : List (Str × List Int) × List Rd3) (x4 : Int × Ev) : List (Str × List Int) × List Rd3 := (if (decide (((x4).2).1 = ("write" : Str))) = true then ((tPut s3.1 (pgE ((x4).2)) (((tGet s3.1 (pgE ((x4).2))).getD ([] : List Int)) ++ (((x4).2).2.1 :: ([] : List Int)))), s3.2) else (if (decide (((x4).2).1 = ("stop" : Str))) = true then ((tMk (fun (_ : (Str × (List Int))) => true) (fun (x19 : (Str × (List Int))) => (x19).1) (fun (x19 : (Str × (List Int))) => ((((x19).2).filter fun x26 => (!decide (x26 = ((x4).2).2.1))).map fun x26 => x26)) s3.1), s3.2) else (if (decide (((x4).2).1 = ("read" : Str))) = true then (s3.1, (s3.2 ++ [((x4).1, ((x4).2).2.1, lst ((tGet s3.1 (pgE ((x4).2))).getD ([] : List Int)))])) else (s3.1, s3.2))))
def rdSt (evs : List Ev) : List (Str × List Int) × List Rd3 := (enumT evs).foldl rdStep ([], [])
theorem reads_st (evs : List Ev) : m_reads_of evs = (rdSt evs).2 := rfl
theorem rdSt_snoc (l : List Ev) (e : Ev) : rdSt (l ++ [e]) = rdStep (rdSt l) ((l.length : Int), e) := by unfold rdSt; rw [enum_snoc, List.foldl_append]; rfl
theorem tGet_cons {κ α : Type} [DecidableEq κ] (p : κ × α) (r : List (κ × α)) (k : κ) : tGet (p :: r) k = if p.1 = k then some p.2 else tGet r k := rfl
theorem tMk_get {α β : Type} {κ : Type} [DecidableEq κ] (f : κ × α → β) (t : List (κ × α)) (hn : (t.map (·.1)).Nodup) (k : κ) : tGet (tMk (fun _ => true) (fun x => x.1) f t) k = (tGet t k).map (fun v => f (k, v)) := by
  have key : ∀ (t : List (κ × α)) (acc : List (κ × β)), (t.map (·.1)).Nodup → tGet (t.foldl (fun a x => tPut a x.1 (f x)) acc) k = ((tGet t k).map (fun v => f (k, v))).or (tGet acc k) := by
    intro t
    induction t with
    | nil => intro acc _; simp [tGet]
    | cons p r ih =>
      intro acc hn
      rw [List.map_cons] at hn
      obtain ⟨h1, h2⟩ := List.nodup_cons.mp hn
      rw [List.foldl_cons, ih _ h2, tGet_put, tGet_cons]
      by_cases e : p.1 = k
      · have hk : tGet r k = none := by
          cases q : tGet r k with
          | none => rfl
          | some v =>
            exfalso
            have : ∀ (r : List (κ × α)) v, tGet r k = some v → k ∈ r.map (·.1) := by
              intro r
              induction r with
              | nil => intro v h; cases h
              | cons a b ih =>
                intro v h
                rw [tGet_cons] at h
                split at h
                · rename_i e; rw [List.map_cons, ← e]; exact List.mem_cons_self
                · rw [List.map_cons]; exact List.mem_cons_of_mem _ (ih v h)
            exact h1 (e ▸ this r v q)
        rw [hk, if_pos e, if_pos e.symm]
        obtain ⟨a, b⟩ := p
        simp only at e
        subst e
        rfl
      · rw [if_neg e, if_neg (fun q => e q.symm)]
  have h0 : tMk (fun _ => true) (fun x : κ × α => x.1) f t = t.foldl (fun a x => tPut a x.1 (f x)) [] := by unfold tMk; rw [List.filter_eq_self.mpr (fun _ _ => rfl)]
  rw [h0, key t [] hn]
  show _ = _
  cases tGet t k <;> rfl
theorem keys_set {κ α : Type} [DecidableEq κ] (k : κ) (v : α) : ∀ t : List (κ × α), (tSet t k v).map (·.1) = t.map (·.1)
  | [] => rfl
  | p :: r => by
    show (if p.1 = k then (p.1, v) else p).1 :: (tSet r k v).map (·.1) = p.1 :: r.map (·.1)
    rw [keys_set k v r]
    split <;> rfl
theorem get_mem {κ α : Type} [DecidableEq κ] {k : κ} : ∀ {t : List (κ × α)}, tGet t k = none → k ∉ t.map (·.1)
  | [], _, h => by cases h
  | p :: r, h, q => by
    rw [tGet_cons] at h
    split at h
    · cases h
    · rename_i e
      rcases List.mem_cons.mp q with q | q
      · exact e q.symm
      · exact get_mem h q
theorem keys_put {κ α : Type} [DecidableEq κ] {k : κ} {v : α} {t : List (κ × α)} (h : (t.map (·.1)).Nodup) : ((tPut t k v).map (·.1)).Nodup := by
  unfold tPut
  split
  · rw [keys_set]; exact h
  · rename_i hn
    rw [List.map_append]
    refine List.nodup_append.mpr ⟨h, by simp, fun a ha b hb e => ?_⟩
    rw [List.map_cons, List.map_nil, List.mem_singleton] at hb
    have : tGet t k = none := by cases q : tGet t k with
      | none => rfl
      | some x => rw [q] at hn; simp at hn
    subst hb
    exact get_mem this (e ▸ ha)
theorem keys_mk {κ α β : Type} [DecidableEq κ] {f : κ × α → β} (t : List (κ × α)) : ((tMk (fun _ => true) (fun x : κ × α => x.1) f t).map (·.1)).Nodup := by
  unfold tMk
  have key : ∀ (l : List (κ × α)) (acc : List (κ × β)), (acc.map (·.1)).Nodup → ((l.foldl (fun a x => tPut a x.1 (f x)) acc).map (·.1)).Nodup := by
    intro l
    induction l with
    | nil => intro acc h; exact h
    | cons x l ih => intro acc h; exact ih _ (keys_put h)
  exact key _ [] (by simp)
theorem rdSt_ok (evs : List Ev) (h : Ok evs) : (rdSt evs).2 = rdsP evs ∧ ((rdSt evs).1.map (·.1)).Nodup ∧ ∀ p, (tGet (rdSt evs).1 p).getD [] = rowOf evs p := by
  revert h
  refine snoc_ind (P := fun evs => Ok evs → (rdSt evs).2 = rdsP evs ∧ ((rdSt evs).1.map (·.1)).Nodup ∧ ∀ p, (tGet (rdSt evs).1 p).getD [] = rowOf evs p) ?_ ?_ evs
  · intro _; exact ⟨rfl, by simp [rdSt, enumT], fun p => rfl⟩
  · intro l e ih h
    obtain ⟨h1, h2, h3⟩ := ih h.init
    rw [rdSt_snoc, rds_snoc]
    unfold rdStep
    dsimp only
    by_cases hw : e.1 = "write"
    · rw [if_pos (decide_eq_true hw), if_neg (by rw [hw]; exact ne_wr), List.append_nil]
      refine ⟨h1, keys_put h2, fun p => ?_⟩
      rw [row_snoc h, if_pos hw, tGet_put]
      by_cases hp : pgE e = p
      · rw [if_pos hp.symm, if_pos hp, Option.getD_some, h3, hp]
      · rw [if_neg (fun q => hp q.symm), if_neg hp, h3]
    · rw [if_neg (by rw [decide_eq_false hw]; exact Bool.false_ne_true)]
      by_cases hs : e.1 = "stop"
      · rw [if_pos (decide_eq_true hs), if_neg (by rw [hs]; exact ne_rs.symm), List.append_nil]
        refine ⟨h1, keys_mk _, fun p => ?_⟩
        rw [row_snoc h, if_neg hw, if_pos hs, tMk_get _ _ h2, ← h3]
        cases tGet (rdSt l).1 p with
        | none => rfl
        | some v => simp
      · rw [if_neg (by rw [decide_eq_false hs]; exact Bool.false_ne_true)]
        by_cases hr : e.1 = "read"
        · rw [if_pos (decide_eq_true hr), if_pos hr]
          refine ⟨by rw [h1, h3], h2, fun p => ?_⟩
          rw [row_snoc h, if_neg hw, if_neg hs, h3]
        · rw [if_neg (by rw [decide_eq_false hr]; exact Bool.false_ne_true), if_neg hr, List.append_nil]
          refine ⟨h1, h2, fun p => ?_⟩
          rw [row_snoc h, if_neg hw, if_neg hs, h3]
theorem reads_eq {evs : List Ev} (h : Ok evs) : m_reads_of evs = rdsP evs := (rdSt_ok evs h).1
end B
set_option Elab.async false
set_option linter.all false
set_option maxRecDepth 100000
set_option maxHeartbeats 1000000
namespace B
open PySem PySem.Spec PyProof.Rows L2 Z
/-! answers -/
def An (evs : List Ev) (n : Int) : Option Int := tGet (m_answered_at evs) n
theorem an_nil (n : Int) : An [] n = none := rfl
theorem an_snoc (l : List Ev) (e : Ev) (n : Int) : An (l ++ [e]) n = if e.1 = "answer" ∧ e.2.1 = n then some (l.length : Int) else An l n := by
  unfold An m_answered_at
  rw [enum_snoc, tMk_snoc]
  by_cases h : e.1 = "answer"
  · rw [if_pos (decide_eq_true h), tGet_put]
    by_cases h2 : e.2.1 = n
    · rw [if_pos h2.symm, if_pos ⟨h, h2⟩]
    · rw [if_neg (fun q => h2 q.symm), if_neg (fun q => h2 q.2)]
  · rw [if_neg (by show ¬ decide (e.1 = "answer") = true; rw [decide_eq_false h]; exact Bool.false_ne_true), if_neg (fun q => h q.1)]
theorem an_lt {evs : List Ev} {n a : Int} : An evs n = some a → 0 ≤ a ∧ a < evs.length := by
  revert a
  refine snoc_ind (P := fun evs => ∀ {a : Int}, An evs n = some a → 0 ≤ a ∧ a < evs.length) ?_ ?_ evs
  · intro a h; cases h
  · intro l e ih a h
    rw [an_snoc] at h
    rw [List.length_append]
    split at h
    · cases h; simp only [List.length_cons, List.length_nil]; omega
    · have := ih h; simp only [List.length_cons, List.length_nil]; omega
theorem an_mem {evs : List Ev} {n a : Int} : An evs n = some a → ∃ b ∈ evs, b.1 = "answer" ∧ b.2.1 = n := by
  revert a
  refine snoc_ind (P := fun evs => ∀ {a : Int}, An evs n = some a → ∃ b ∈ evs, b.1 = "answer" ∧ b.2.1 = n) ?_ ?_ evs
  · intro a h; cases h
  · intro l e ih a h
    rw [an_snoc] at h
    split at h
    · rename_i q; exact ⟨e, by simp, q⟩
    · obtain ⟨b, hb, q⟩ := ih h; exact ⟨b, List.mem_append_left _ hb, q⟩
theorem an_none {evs : List Ev} {n : Int} (h : ∀ b ∈ evs, b.1 = "answer" → b.2.1 ≠ n) : An evs n = none := by
  cases q : An evs n with
  | none => rfl
  | some a => obtain ⟨b, hb, h1, h2⟩ := an_mem q; exact absurd h2 (h b hb h1)
theorem an_some {evs : List Ev} {n : Int} (h : ∃ b ∈ evs, b.1 = "answer" ∧ b.2.1 = n) : (An evs n).isSome = true := by
  revert h
  refine snoc_ind (P := fun evs => (∃ b ∈ evs, b.1 = ("answer" : Str) ∧ b.2.1 = n) → (An evs n).isSome = true) ?_ ?_ evs
  · rintro ⟨b, hb, _⟩; cases hb
  · rintro l e ih ⟨b, hb, h⟩
    rw [an_snoc]
    split
    · rfl
    · rename_i q
      rcases List.mem_append.mp hb with hb | hb
      · exact ih ⟨b, hb, h⟩
      · rw [List.mem_singleton.mp hb] at h; exact absurd h q
theorem an_new {l : List Ev} {e : Ev} (h : Ok (l ++ [e])) : An l e.2.1 = none := an_none fun b hb h1 h2 => h.last.2 b hb (isEnd_iff.mpr (.inl h1)) h2.symm
/-! reads -/
theorem rds_lt {evs : List Ev} : ∀ r ∈ rdsP evs, 0 ≤ r.1 ∧ r.1 < evs.length := by
  refine snoc_ind (P := fun evs => ∀ r ∈ rdsP evs, 0 ≤ r.1 ∧ r.1 < evs.length) ?_ ?_ evs
  · intro r h; cases h
  · intro l e ih r h
    rw [rds_snoc] at h
    rw [List.length_append]
    rcases List.mem_append.mp h with h | h
    · have := ih r h; simp only [List.length_cons, List.length_nil]; omega
    · split at h
      · rw [List.mem_singleton.mp h]; simp only [List.length_cons, List.length_nil]; omega
      · cases h
theorem rds_asc (evs : List Ev) : (rdsP evs).Pairwise (fun a b => a.1 < b.1) := by
  refine snoc_ind (P := fun evs => (rdsP evs).Pairwise (fun a b => a.1 < b.1)) ?_ ?_ evs
  · exact List.Pairwise.nil
  · intro l e ih
    rw [rds_snoc]
    refine List.pairwise_append.mpr ⟨ih, ?_, fun a ha b hb => ?_⟩
    · split
      · exact List.pairwise_singleton _ _
      · exact List.Pairwise.nil
    · split at hb
      · rw [List.mem_singleton.mp hb]; exact (rds_lt a ha).2
      · cases hb
theorem lst_mem {row : List Int} {w : Int} (h : lst row = some w) : w ∈ row := by
  unfold lst at h
  split at h
  · rename_i q
    simp only [Bool.not_eq_true', decide_eq_false_iff_not] at q
    have hp := List.length_pos_iff.mpr q
    have e := ixI_at (d := (0 : Int)) (xs := row) (i := -1) (by omega)
    have h2 : ixI 0 row (-1) = w := Option.some.inj h
    rw [h2] at e
    obtain ⟨j, _, e⟩ := Option.bind_eq_some_iff.mp e
    exact List.mem_of_getElem? e
  · cases h
theorem row_mem {l : List Ev} {p : Str} {w : Int} (h : w ∈ rowOf l p) : ∃ b ∈ l, b.1 = "write" ∧ b.2.1 = w ∧ w ∉ goneOf l := by
  obtain ⟨b, hb, e⟩ := List.mem_map.mp h
  obtain ⟨h1, h2⟩ := List.mem_filter.mp hb
  simp only [Bool.and_eq_true, decide_eq_true_eq, Bool.not_eq_true', decide_eq_false_iff_not] at h2
  exact ⟨b, h1, h2.1, e, e ▸ h2.2.2⟩
/-- who reads, who wrote -/
theorem rds_mem {evs : List Ev} : ∀ r ∈ rdsP evs, (∃ b ∈ evs, b.1 = "read" ∧ b.2.1 = r.2.1) ∧ ∀ w, r.2.2 = some w → ∃ b ∈ evs, b.1 = "write" ∧ b.2.1 = w := by
  refine snoc_ind (P := fun evs => ∀ r ∈ rdsP evs, (∃ b ∈ evs, b.1 = "read" ∧ b.2.1 = r.2.1) ∧ ∀ w, r.2.2 = some w → ∃ b ∈ evs, b.1 = "write" ∧ b.2.1 = w) ?_ ?_ evs
  · intro r h; cases h
  · intro l e ih r h
    rw [rds_snoc] at h
    rcases List.mem_append.mp h with h | h
    · obtain ⟨⟨b, hb, q⟩, h2⟩ := ih r h
      refine ⟨⟨b, List.mem_append_left _ hb, q⟩, fun w hw => ?_⟩
      obtain ⟨c, hc, q⟩ := h2 w hw
      exact ⟨c, List.mem_append_left _ hc, q⟩
    · split at h
      · rename_i he
        rw [List.mem_singleton.mp h]
        refine ⟨⟨e, by simp, he, rfl⟩, fun w hw => ?_⟩
        obtain ⟨b, hb, h1, h2, _⟩ := row_mem (lst_mem hw)
        exact ⟨b, List.mem_append_left _ hb, h1, h2⟩
      · cases h
/-- a commit reads ahead of its answer -/
theorem rds_an {evs : List Ev} (h : Ok evs) : ∀ r ∈ rdsP evs, ∀ a, An evs r.2.1 = some a → r.1 < a := by
  revert h
  refine snoc_ind (P := fun evs => Ok evs → ∀ r ∈ rdsP evs, ∀ a, An evs r.2.1 = some a → r.1 < a) ?_ ?_ evs
  · intro _ r h; cases h
  · intro l e ih h r hr a ha
    rw [rds_snoc] at hr
    rw [an_snoc] at ha
    rcases List.mem_append.mp hr with hr | hr
    · split at ha
      · cases ha; exact (rds_lt r hr).2
      · exact ih h.init r hr a ha
    · split at hr
      · rename_i he
        rw [List.mem_singleton.mp hr] at ha
        rw [if_neg (fun q => ne_ra (he.symm.trans q.1))] at ha
        have := an_new h
        dsimp only at ha
        rw [this] at ha; cases ha
      · cases hr
/-! the first of them -/
def fst1 (p : Rd3 → Bool) (l : List Rd3) : Option Int := (l.find? p).map (·.1)
theorem lpR_find {p : Rd3 → Bool} : ∀ l : List Rd3, (match lpR (fun (_ : Unit) (x : Rd3) => ((if p x = true then .error (some x.1) else .ok ()) : Except (Option Int) Unit)) l () with | .ok _ => none | .error r_ => r_) = fst1 p l
  | [] => rfl
  | x :: l => by
    unfold fst1
    rw [List.find?_cons]
    unfold lpR
    cases h : p x with
    | true => simp
    | false => simp only [Bool.false_eq_true, if_false]; exact lpR_find l
def dB (f : Int → Option Int) (L : Int) (r : Rd3) : Bool := (!(r.2.2).isNone) && ((!decide (r.2.2 = some r.2.1)) && decide (r.1 < (f (r.2.2.getD 0)).getD L))
def uB (f : Int → Option Int) (r : Rd3) : Bool := ((!(r.2.2).isNone) && ((!decide (r.2.2 = some r.2.1)) && (f r.2.1).isSome)) && ((!(f (r.2.2.getD 0)).isSome) || decide ((f r.2.1).getD 0 < (f (r.2.2.getD 0)).getD 0))
theorem fd_eq {evs : List Ev} (h : Ok evs) : m_first_dirty evs = fst1 (dB (An evs) evs.length) (rdsP evs) := by
  unfold m_first_dirty
  rw [reads_eq h]
  exact lpR_find (p := dB (An evs) evs.length) (rdsP evs)
theorem lpR_find' {p : Rd3 → Bool} {f : Unit → Rd3 → Except (Option Int) Unit} (hf : ∀ s x, f s x = if p x = true then .error (some x.1) else .ok ()) (l : List Rd3) : (match lpR f l () with | .ok _ => none | .error r_ => r_) = fst1 p l := by
  have e : f = fun _ x => if p x = true then .error (some x.1) else .ok () := by funext s x; exact hf s x
  subst e
  exact lpR_find l
theorem fu_eq {evs : List Ev} (h : Ok evs) : m_first_unsafe evs = fst1 (uB (An evs)) (rdsP evs) := by
  unfold m_first_unsafe
  rw [reads_eq h]
  refine lpR_find' (p := uB (An evs)) (fun s x => ?_) (rdsP evs)
  show ((if ((!((x).2.2).isNone) && ((!decide ((x).2.2 = (some (x).2.1))) && (An evs (x).2.1).isSome)) = true then (if ((!(An evs (((x).2.2).getD 0)).isSome) || (decide (((An evs (x).2.1).getD 0) < ((An evs (((x).2.2).getD 0)).getD 0)))) = true then (.error (some (x).1)) else (.ok ())) else (.ok ())) : Except (Option Int) Unit) = _
  unfold uB
  cases ((!((x).2.2).isNone) && ((!decide ((x).2.2 = (some (x).2.1))) && (An evs (x).2.1).isSome)) <;> simp
theorem fst1_none {p : Rd3 → Bool} {l : List Rd3} (h : ∀ r ∈ l, p r = false) : fst1 p l = none := by
  unfold fst1
  rw [List.find?_eq_none.mpr fun r hr => by rw [h r hr]; exact Bool.false_ne_true]; rfl
theorem fst1_congr {p q : Rd3 → Bool} {l : List Rd3} (h : ∀ r ∈ l, p r = q r) : fst1 p l = fst1 q l := by
  unfold fst1
  congr 1
  induction l with
  | nil => rfl
  | cons x l ih =>
    rw [List.find?_cons, List.find?_cons, h x List.mem_cons_self, ih fun r hr => h r (List.mem_cons_of_mem _ hr)]
theorem fst1_some {p : Rd3 → Bool} {l : List Rd3} {a : Int} (h : fst1 p l = some a) : ∃ r ∈ l, p r = true ∧ r.1 = a := by
  unfold fst1 at h
  cases q : l.find? p with
  | none => rw [q] at h; cases h
  | some r =>
    rw [q] at h
    exact ⟨r, List.mem_of_find?_eq_some q, List.find?_some q, Option.some.inj h⟩
theorem fst1_le {p : Rd3 → Bool} : ∀ {l : List Rd3}, l.Pairwise (fun a b => a.1 < b.1) → ∀ r ∈ l, p r = true → ∃ a, fst1 p l = some a ∧ a ≤ r.1
  | x :: l, hl, r, hr, hp => by
    obtain ⟨h1, h2⟩ := List.pairwise_cons.mp hl
    unfold fst1
    rw [List.find?_cons]
    cases q : p x with
    | true =>
      refine ⟨x.1, rfl, ?_⟩
      rcases List.mem_cons.mp hr with e | e
      · rw [e]; exact Int.le_refl _
      · have := h1 r e; omega
    | false =>
      rcases List.mem_cons.mp hr with e | e
      · rw [e, q] at hp; cases hp
      · exact fst1_le h2 r e hp
theorem fst1_head {p : Rd3 → Bool} (l : List Rd3) : (if (!decide (((l.filter p).map fun x => x.1) = ([] : List Int))) = true then some (ixI 0 ((l.filter p).map fun x => x.1) (0 : Int)) else none) = fst1 p l := by
  unfold fst1
  induction l with
  | nil => rfl
  | cons x l ih =>
    rw [List.find?_cons]
    cases h : p x with
    | true =>
      rw [List.filter_cons_of_pos h, List.map_cons]
      rw [if_pos (by simp)]
      show some (ixI 0 _ ((0 : Nat) : Int)) = _
      rw [ixI_nat (by simp)]; rfl
    | false => rw [List.filter_cons_of_neg (by rw [h]; exact Bool.false_ne_true)]; exact ih
/-- the first places alone -/
theorem fst1_cut {p q : Rd3 → Bool} {i : Int} : ∀ {l : List Rd3}, l.Pairwise (fun a b => a.1 < b.1) → (∀ r ∈ l, r.1 < i → q r = p r) → fst1 q (l.filter fun r => decide (r.1 < i)) = (if ((!(fst1 p l).isNone) && decide ((fst1 p l).getD 0 < i)) = true then fst1 p l else none)
  | [], _, _ => rfl
  | x :: l, hl, h => by
    obtain ⟨h1, h2⟩ := List.pairwise_cons.mp hl
    have ih := fst1_cut (p := p) (q := q) (i := i) h2 fun r hr => h r (List.mem_cons_of_mem _ hr)
    by_cases hx : x.1 < i
    · rw [List.filter_cons_of_pos (p := fun r : Rd3 => decide (r.1 < i)) (decide_eq_true hx)]
      have hq := h x List.mem_cons_self hx
      unfold fst1 at ih ⊢
      rw [List.find?_cons, List.find?_cons, hq]
      cases hp : p x with
      | true => simp [hx]
      | false => exact ih
    · have e : (x :: l).filter (fun r => decide (r.1 < i)) = [] := by
        rw [List.filter_eq_nil_iff]
        intro r hr
        rcases List.mem_cons.mp hr with e | e
        · rw [e, decide_eq_false hx]; exact Bool.false_ne_true
        · have := h1 r e
          rw [decide_eq_false (by omega)]; exact Bool.false_ne_true
      rw [e]
      symm
      show (if _ then _ else _) = none
      cases q1 : fst1 p (x :: l) with
      | none => rfl
      | some a =>
        obtain ⟨r, hr, _, hra⟩ := fst1_some q1
        have : ¬ a < i := by
          rcases List.mem_cons.mp hr with e2 | e2
          · rw [← hra, e2]; exact hx
          · have := h1 r e2; omega
        simp [this]
end B
set_option Elab.async false
set_option linter.all false
set_option maxRecDepth 100000
set_option maxHeartbeats 1000000
namespace B
open PySem PySem.Spec PyProof.Rows L2 Z
structure Drawn (evs : List Ev) : Prop where
  ok : Ok evs
  len : evs.length ≤ 14
  nm : ∀ e ∈ evs, 0 ≤ e.2.1 ∧ e.2.1 < 4
theorem run_ok (ns : List Int) (k i : Nat) (hi : i ≤ 14) : Ok (evRun ns k i).1 ∧ (evRun ns k i).2.1 = endsOf (evRun ns k i).1 ∧ ∀ e ∈ (evRun ns k i).1, 0 ≤ e.2.1 ∧ e.2.1 < 4 := by
  induction i with
  | zero => exact ⟨Ok.nil, rfl, fun e h => by cases h⟩
  | succ i ih =>
    obtain ⟨h1, h2, h3⟩ := ih (by omega)
    have hl := (evRun_len ns k i).1
    show Ok (evStep ns (evRun ns k i)).1 ∧ _ ∧ _
    change Ok (evStep ns (evRun ns k i)).1 ∧ (evStep ns (evRun ns k i)).2.1 = endsOf (evStep ns (evRun ns k i)).1 ∧ ∀ e ∈ (evStep ns (evRun ns k i)).1, 0 ≤ e.2.1 ∧ e.2.1 < 4
    generalize evRun ns k i = S at h1 h2 h3 hl ⊢
    obtain ⟨evs, ended, kk⟩ := S
    dsimp only at h1 h2 h3 hl
    unfold evStep
    dsimp only
    have n4 := tk_in ns (kk + 1) (many := 4) (by decide)
    by_cases hq : (!decide (tk ns (kk + 1) 4 ∈ ended)) = true
    · rw [if_pos hq]
      have hnew : ∀ b ∈ evs, isEnd b = true → tk ns (kk + 1) 4 ≠ b.2.1 := fun b hb he q => by
        simp only [Bool.not_eq_true', decide_eq_false_iff_not] at hq
        rw [h2] at hq
        exact hq (by unfold endsOf; exact List.mem_map.mpr ⟨b, List.mem_filter.mpr ⟨hb, he⟩, q.symm⟩)
      by_cases hc : tk ns kk 7 < 2
      · rw [if_pos (decide_eq_true hc), if_pos (decide_eq_true hc)]
        have w7 := tk_in ns kk (many := 7) (by decide)
        have hw : ixI ("" : Str) ["answer", "stop"] (tk ns kk 7) = "answer" ∨ ixI ("" : Str) ["answer", "stop"] (tk ns kk 7) = "stop" := by
          have : tk ns kk 7 = 0 ∨ tk ns kk 7 = 1 := by omega
          rcases this with e | e <;> rw [e]
          · exact .inl rfl
          · exact .inr rfl
        generalize ixI ("" : Str) ["answer", "stop"] (tk ns kk 7) = wd at hw ⊢
        have he : isEnd (wd, tk ns (kk + 1) 4, none) = true := isEnd_iff.mpr hw
        refine ⟨h1.snoc (by omega) ?_ hnew, ?_, fun e he => ?_⟩
        · rcases hw with q | q
          · exact .inl ⟨q, rfl⟩
          · exact .inr (.inl ⟨q, rfl⟩)
        · rw [ends_snoc, if_pos he, h2]
        · rcases List.mem_append.mp he with q | q
          · exact h3 e q
          · rw [List.mem_singleton.mp q]; exact n4
      · rw [if_neg (by rw [decide_eq_false hc]; exact Bool.false_ne_true), if_neg (by rw [decide_eq_false hc]; exact Bool.false_ne_true)]
        have two : ∀ {a b : Str} {t : Int}, 0 ≤ t ∧ t < 2 → ixI ("" : Str) [a, b] t = a ∨ ixI ("" : Str) [a, b] t = b := by
          intro a b t ht
          have : t = 0 ∨ t = 1 := by omega
          rcases this with e | e <;> rw [e]
          · exact .inl rfl
          · exact .inr rfl
        have hw := two (a := "read") (b := "write") (tk_in ns (kk + 2) (many := 2) (by decide))
        have hp := two (a := "a") (b := "b") (tk_in ns (kk + 3) (many := 2) (by decide))
        generalize ixI ("" : Str) ["read", "write"] (tk ns (kk + 2) 2) = wd at hw ⊢
        generalize ixI ("" : Str) ["a", "b"] (tk ns (kk + 3) 2) = pg at hp ⊢
        have he : isEnd (wd, tk ns (kk + 1) 4, some pg) = false := by
          cases q : isEnd (wd, tk ns (kk + 1) 4, some pg) with
          | false => rfl
          | true =>
            rcases isEnd_iff.mp q with q | q <;> rcases hw with r | r <;> (dsimp only at q; rw [q] at r)
            · exact absurd r.symm ne_ra
            · exact absurd r.symm ne_wa
            · exact absurd r.symm ne_rs
            · exact absurd r.symm ne_ws
        refine ⟨h1.snoc (by omega) ?_ hnew, ?_, fun e he => ?_⟩
        · refine .inr (.inr ⟨hw, ?_⟩)
          rcases hp with q | q <;> rw [q]
          · exact .inl rfl
          · exact .inr rfl
        · rw [ends_snoc, he, if_neg Bool.false_ne_true, List.append_nil, h2]
        · rcases List.mem_append.mp he with q | q
          · exact h3 e q
          · rw [List.mem_singleton.mp q]; exact n4
    · rw [if_neg hq]; exact ⟨h1, h2, h3⟩
theorem drawn_of (ns : List Int) (k : Nat) : Drawn (evOf ns k).1 := by
  have h15 := tk_in ns k (many := 15) (by decide)
  have hr := run_ok ns k (tk ns k 15).toNat (by omega)
  exact ⟨hr.1, Nat.le_trans (evRun_len ns k _).1 (by omega), hr.2.2⟩
/-! where things stand -/
theorem an_at {evs : List Ev} {n a : Int} : An evs n = some a → ∃ e, evs[a.toNat]? = some e ∧ e.1 = "answer" ∧ e.2.1 = n := by
  revert a
  refine snoc_ind (P := fun evs => ∀ {a : Int}, An evs n = some a → ∃ e, evs[a.toNat]? = some e ∧ e.1 = "answer" ∧ e.2.1 = n) ?_ ?_ evs
  · intro a h; cases h
  · intro l e ih a h
    rw [an_snoc] at h
    split at h
    · rename_i q; cases h; exact ⟨e, by simp, q⟩
    · obtain ⟨b, hb, q⟩ := ih h
      have := an_lt h
      exact ⟨b, by rw [List.getElem?_append_left (by omega)]; exact hb, q⟩
theorem rds_at {evs : List Ev} : ∀ r ∈ rdsP evs, ∃ e, evs[r.1.toNat]? = some e ∧ e.1 = "read" ∧ e.2.1 = r.2.1 := by
  refine snoc_ind (P := fun evs => ∀ r ∈ rdsP evs, ∃ e, evs[r.1.toNat]? = some e ∧ e.1 = "read" ∧ e.2.1 = r.2.1) ?_ ?_ evs
  · intro r h; cases h
  · intro l e ih r h
    rw [rds_snoc] at h
    rcases List.mem_append.mp h with h | h
    · obtain ⟨b, hb, q⟩ := ih r h
      have := rds_lt r h
      exact ⟨b, by rw [List.getElem?_append_left (by omega)]; exact hb, q⟩
    · split at h
      · rename_i he; rw [List.mem_singleton.mp h]; exact ⟨e, by simp, he, rfl⟩
      · cases h
theorem an_ne {evs : List Ev} {n a : Int} (h : An evs n = some a) : ∀ r ∈ rdsP evs, a ≠ r.1 := fun r hr q => by
  obtain ⟨e, he, h1, _⟩ := an_at h
  obtain ⟨b, hb, h2, _⟩ := rds_at r hr
  rw [q, hb] at he
  cases he
  exact ne_ra (h2.symm.trans h1)
theorem an_inj {evs : List Ev} {n m a : Int} (h : An evs n = some a) (h2 : An evs m = some a) : n = m := by
  obtain ⟨e, he, _, e1⟩ := an_at h
  obtain ⟨b, hb, _, e2⟩ := an_at h2
  rw [hb] at he
  cases he
  exact e1.symm.trans e2
/-! the two ways to tell -/
theorem wrong_an (evs : List Ev) : (tOf ((((enumT evs)).filter fun x1 => (decide (((x1).2).1 = ("answer" : Str)))).map fun x1 => (((x1).2).2.1, (x1).1))) = m_answered_at evs := by
  unfold tOf m_answered_at tMk
  rw [List.foldl_map]
def w1 (x10 : Rd3) : Bool := ((!((x10).2.2).isNone) && (!decide ((x10).2.2 = (some (x10).2.1))))
def w2 (f : Int → Option Int) (b : Bool) (x10 : Rd3) : Bool := ((b && (!((f (((x10).2.2).getD 0)).isSome && (decide (((f (((x10).2.2).getD 0)).getD 0) < (x10).1))))) || ((!b) && ((f (x10).2.1).isSome && (!((f (((x10).2.2).getD 0)).isSome && (decide (((f (((x10).2.2).getD 0)).getD 0) < ((f (x10).2.1).getD 0))))))))
def wB (f : Int → Option Int) (b : Bool) (x : Rd3) : Bool := w1 x && w2 f b x
theorem wrong_eq {evs : List Ev} (h : Ok evs) : m_first_dirty evs = m__law_wrong evs true ∧ m_first_unsafe evs = m__law_wrong evs false := by
  have key : ∀ b, m__law_wrong evs b = fst1 (wB (An evs) b) (rdsP evs) := by
    intro b
    unfold m__law_wrong
    rw [law_read_eq, wrong_an]
    refine lpR_find' (fun s x => ?_) (rdsP evs)
    show ((if (w1 x) = true then (if (w2 (An evs) b x) = true then (.error (some (x).1)) else (.ok ())) else (.ok ())) : Except (Option Int) Unit) = _
    unfold wB
    cases w1 x <;> simp
  constructor
  · rw [fd_eq h, key]
    apply fst1_congr
    intro r hr
    have hlt := rds_lt r hr
    unfold dB wB w1 w2
    cases hw : An evs (r.2.2.getD 0) with
    | none =>
      simp only [Option.getD_none, Option.isSome_none, Bool.false_and, Bool.not_false, Bool.and_true, Bool.true_and, Bool.true_or, decide_eq_true hlt.2, Bool.not_true, Bool.or_false]
    | some a =>
      have hne := an_ne hw r hr
      have e1 : decide (r.1 < a) = !decide (a < r.1) := by
        rw [Bool.eq_iff_iff]; simp only [decide_eq_true_eq, Bool.not_eq_true', decide_eq_false_iff_not]; omega
      simp only [Option.getD_some, Option.isSome_some, Bool.true_and, e1, Bool.not_true, Bool.false_and, Bool.or_false, Bool.and_assoc]
  · rw [fu_eq h, key]
    apply fst1_congr
    intro r hr
    unfold uB wB w1 w2
    cases h1 : r.2.2 with
    | none => simp
    | some wr =>
      simp only [Option.getD_some, Option.isNone_some, Bool.not_false, Bool.true_and, Bool.false_and, Bool.false_or]
      by_cases hne : (some wr : Option Int) = some r.2.1
      · simp [hne]
      · rw [decide_eq_false hne]
        simp only [Bool.not_false, Bool.true_and]
        cases ho : An evs r.2.1 with
        | none => simp
        | some b =>
          rcases opt_cases (An evs wr) with hw | ⟨a, hw⟩
          · simp [hw]
          · have hab : a ≠ b := fun q => hne (congrArg some (an_inj hw (q.symm ▸ ho)))
            simp only [hw, Option.isSome_some, Option.getD_some, Bool.not_true, Bool.false_or, Bool.true_and]
            rw [Bool.eq_iff_iff]; simp only [decide_eq_true_eq, Bool.not_eq_true', decide_eq_false_iff_not]; omega
theorem nv0 {events : List Ev} (hE : Drawn events) : ((!decide ((m_reads_of (events)) = (m__law_read (events)))) || ((!decide ((m_first_dirty (events)) = (m__law_wrong (events) (true)))) || (!decide ((m_first_unsafe (events)) = (m__law_wrong (events) (false)))))) = false := by
  obtain ⟨h1, h2⟩ := wrong_eq hE.ok
  rw [decide_eq_true ((reads_eq hE.ok).trans (law_read_eq events).symm), decide_eq_true h1, decide_eq_true h2]; rfl
/-! unsafe reads are dirty ones -/
theorem u_d {evs : List Ev} (h : Ok evs) : ∀ r ∈ rdsP evs, uB (An evs) r = true → dB (An evs) evs.length r = true := by
  intro r hr hu
  unfold uB at hu
  unfold dB
  simp only [Bool.and_eq_true, Bool.or_eq_true, decide_eq_true_eq, Bool.not_eq_true'] at hu ⊢
  obtain ⟨⟨h1, h2, h3⟩, h4⟩ := hu
  refine ⟨h1, h2, ?_⟩
  obtain ⟨b, hb⟩ := Option.isSome_iff_exists.mp h3
  have hlt := rds_lt r hr
  have hrb := rds_an h r hr b hb
  cases hw : An evs (r.2.2.getD 0) with
  | none => exact hlt.2
  | some a =>
    rw [hw, hb] at h4
    simp only [Option.isSome_some, Option.getD_some] at h4 ⊢
    rcases h4 with q | q
    · cases q
    · omega
theorem fu_fd {evs : List Ev} (h : Ok evs) {u : Int} (hu : m_first_unsafe evs = some u) : ∃ d, m_first_dirty evs = some d ∧ d ≤ u := by
  rw [fu_eq h] at hu
  obtain ⟨r, hr, hp, rfl⟩ := fst1_some hu
  rw [fd_eq h]
  exact fst1_le (rds_asc evs) r hr (u_d h r hr hp)
theorem nv1 {events : List Ev} (hE : Drawn events) : ((((m_first_dirty (events))).isNone && (!((m_first_unsafe (events))).isNone)) || ((!((m_first_dirty (events))).isNone) && ((!((m_first_unsafe (events))).isNone) && (decide ((((m_first_unsafe (events))).getD 0) < (((m_first_dirty (events))).getD 0)))))) = false := by
  cases hu : m_first_unsafe events with
  | none => simp
  | some u =>
    obtain ⟨d, hd, hle⟩ := fu_fd hE.ok hu
    rw [hd]
    simp only [Option.isNone_some, Option.getD_some, Bool.false_and, Bool.not_false, Bool.true_and, Bool.false_or, decide_eq_false_iff_not]
    omega
/-! deeds alone -/
def deedsOf (events : List Ev) : List Ev := ((events).filter fun x11 => (decide ((x11).1 ∈ (("read" : Str) :: (("write" : Str) :: ([] : List Str)))))).map fun x11 => x11
theorem deed_not {e : Ev} (h : e.1 ∈ (("read" : Str) :: (("write" : Str) :: ([] : List Str)))) : e.1 ≠ "answer" ∧ e.1 ≠ "stop" ∧ isEnd e = false := by
  have h1 : e.1 ≠ "answer" := fun q => by
    rw [q] at h
    rcases List.mem_cons.mp h with r | h
    · exact ne_ra r.symm
    rcases List.mem_cons.mp h with r | h
    · exact ne_wa r.symm
    · cases h
  have h2 : e.1 ≠ "stop" := fun q => by
    rw [q] at h
    rcases List.mem_cons.mp h with r | h
    · exact ne_rs r.symm
    rcases List.mem_cons.mp h with r | h
    · exact ne_ws r.symm
    · cases h
  refine ⟨h1, h2, ?_⟩
  cases q : isEnd e with
  | false => rfl
  | true => rcases isEnd_iff.mp q with q | q
            · exact absurd q h1
            · exact absurd q h2
structure Deeds (deeds : List Ev) : Prop where
  ok : Ok deeds
  len : deeds.length ≤ 14
  nm : ∀ e ∈ deeds, 0 ≤ e.2.1 ∧ e.2.1 < 4
  rw : ∀ e ∈ deeds, e.1 ∈ (("read" : Str) :: (("write" : Str) :: ([] : List Str)))
theorem deeds_of {events deeds : List Ev} (hE : Drawn events) (hd : ((events).filter fun x11 => (decide ((x11).1 ∈ (("read" : Str) :: (("write" : Str) :: ([] : List Str)))))).map (fun x11 => x11) = deeds) : Deeds deeds := by
  rw [List.map_id'] at hd
  subst hd
  exact ⟨hE.ok.sub List.filter_sublist, Nat.le_trans (List.length_filter_le _ _) hE.len, fun e he => hE.nm e (List.mem_filter.mp he).1, fun e he => of_decide_eq_true (List.mem_filter.mp he).2⟩
theorem Deeds.an {deeds : List Ev} (h : Deeds deeds) (n : Int) : An deeds n = none := an_none fun b hb q => absurd q (deed_not (h.rw b hb)).1
theorem nv2 {deeds : List Ev} {others : List Int} (hD : Deeds deeds) (ho : (((m_reads_of (deeds)).filter fun x19 => ((!((x19).2.2).isNone) && (!decide ((x19).2.2 = (some (x19).2.1))))).map fun x19 => (x19).1) = others) :
    ((!decide ((m_first_dirty (deeds)) = (if (!decide (others = ([] : List Int))) = true then (some (ixI 0 others (0 : Int))) else none))) || (!((m_first_unsafe (deeds))).isNone)) = false := by
  have h1 : m_first_unsafe deeds = none := by
    rw [fu_eq hD.ok]
    refine fst1_none fun r hr => ?_
    unfold uB
    rw [hD.an]; simp
  rw [h1, ← ho, reads_eq hD.ok, fst1_head, fd_eq hD.ok, fst1_congr (q := fun x19 => ((!((x19).2.2).isNone) && (!decide ((x19).2.2 = (some (x19).2.1))))) fun r hr => ?_]
  · simp
  · unfold dB
    rw [hD.an, Option.getD_none, decide_eq_true (rds_lt r hr).2, Bool.and_true]
end B
set_option Elab.async false
set_option linter.all false
set_option maxRecDepth 100000
set_option maxHeartbeats 1000000
namespace B
open PySem PySem.Spec PyProof.Rows L2 Z
/-! answers at the end -/
def anE (n : Int) : Ev := (("answer" : Str), n, none)
def app (d : List Ev) (ns : List Int) : List Ev := d ++ ns.map anE
theorem app_snoc (d : List Ev) (ns : List Int) (c : Int) : app d (ns ++ [c]) = app d ns ++ [anE c] := by unfold app; rw [List.map_append, List.append_assoc]; rfl
theorem app_len (d : List Ev) (ns : List Int) : (app d ns).length = d.length + ns.length := by unfold app; rw [List.length_append, List.length_map]
theorem app_rds (d : List Ev) (ns : List Int) : rdsP (app d ns) = rdsP d := by
  refine snoc_ind (P := fun ns => rdsP (app d ns) = rdsP d) ?_ ?_ ns
  · unfold app; rw [List.map_nil, List.append_nil]
  · intro ns c ih
    rw [app_snoc, rds_snoc, if_neg (show ¬ (anE c).1 = "read" from ne_ra.symm), List.append_nil, ih]
theorem app_ok {d : List Ev} {ns : List Int} (hD : Deeds d) (hn : ns.Nodup) (hz : d.length + ns.length ≤ 30) : Ok (app d ns) := by
  revert hn hz
  refine snoc_ind (P := fun ns => ns.Nodup → d.length + ns.length ≤ 30 → Ok (app d ns)) ?_ ?_ ns
  · intro _ _; unfold app; rw [List.map_nil, List.append_nil]; exact hD.ok
  · intro ns c ih hn hz
    rw [List.length_append, List.length_cons, List.length_nil] at hz
    obtain ⟨n1, _, n3⟩ := List.nodup_append.mp hn
    rw [app_snoc]
    refine (ih n1 (by omega)).snoc (by rw [app_len]; omega) (.inl ⟨rfl, rfl⟩) fun b hb he => ?_
    unfold app at hb
    rcases List.mem_append.mp hb with q | q
    · rw [(deed_not (hD.rw b q)).2.2] at he; cases he
    · obtain ⟨m, hm, rfl⟩ := List.mem_map.mp q
      exact fun e => n3 m hm c (by simp) e.symm
theorem app_an {d : List Ev} (ns : List Int) : ∀ n ∈ ns, ∃ a, An (app d ns) n = some a ∧ (d.length : Int) ≤ a := by
  refine snoc_ind (P := fun ns => ∀ n ∈ ns, ∃ a, An (app d ns) n = some a ∧ (d.length : Int) ≤ a) ?_ ?_ ns
  · intro n h; cases h
  · intro ns c ih n hn
    rw [app_snoc, an_snoc]
    split
    · exact ⟨_, rfl, by rw [app_len]; omega⟩
    · rename_i q
      rcases List.mem_append.mp hn with h | h
      · exact ih n h
      · exact absurd ⟨rfl, (List.mem_singleton.mp h).symm⟩ q
/-- in the order of the row -/
theorem app_lt {d : List Ev} {R : Int → Int → Prop} (hR : ∀ a b, R a b → ¬ R b a) (hI : ∀ a, ¬ R a a) (ns : List Int) (hp : ns.Pairwise R) : ∀ a ∈ ns, ∀ b ∈ ns, R a b → ∃ x y, An (app d ns) a = some x ∧ An (app d ns) b = some y ∧ x < y := by
  revert hp
  refine snoc_ind (P := fun ns => ns.Pairwise R → ∀ a ∈ ns, ∀ b ∈ ns, R a b → ∃ x y, An (app d ns) a = some x ∧ An (app d ns) b = some y ∧ x < y) ?_ ?_ ns
  · intro _ a h; cases h
  · intro ns c ih hp a ha b hb hab
    obtain ⟨p1, _, p3⟩ := List.pairwise_append.mp hp
    have ne : ∀ z ∈ ns, ¬ c = z := fun z hz q => hI c (by have := p3 z hz c (by simp); rw [← q] at this; exact this)
    rw [app_snoc, an_snoc, an_snoc]
    rcases List.mem_append.mp ha with h1 | h1 <;> rcases List.mem_append.mp hb with h2 | h2
    · rw [if_neg (fun q => ne a h1 q.2), if_neg (fun q => ne b h2 q.2)]
      exact ih p1 a h1 b h2 hab
    · have hb2 := List.mem_singleton.mp h2
      subst hb2
      rw [if_neg (fun q => ne a h1 q.2), if_pos ⟨rfl, rfl⟩]
      obtain ⟨x, hx, _⟩ := app_an (d := d) ns a h1
      exact ⟨x, _, hx, rfl, (an_lt hx).2⟩
    · have ha2 := List.mem_singleton.mp h1
      subst ha2
      exact absurd (p3 b h2 a (by simp)) (hR _ _ hab)
    · rw [List.mem_singleton.mp h1, List.mem_singleton.mp h2] at hab
      exact absurd hab (hI c)
theorem names_in {deeds : List Ev} {names : List Int} (hn : sset (deeds.map fun x15 => (x15).2.1) = names) : (∀ n, n ∈ names ↔ ∃ e ∈ deeds, e.2.1 = n) ∧ names.Pairwise (· < ·) ∧ names.length ≤ deeds.length := by
  subst hn
  exact ⟨fun n => by rw [mem_sset, List.mem_map], asc_sset _, by have := sset_len (deeds.map fun x15 => (x15).2.1); rw [List.length_map] at this; exact this⟩
theorem nodup_of {R : Int → Int → Prop} (hI : ∀ a, ¬ R a a) {ns : List Int} (h : ns.Pairwise R) : ns.Nodup := List.Pairwise.imp (fun {a b} (q : R a b) (e : a = b) => hI a (by rw [← e] at q; exact q)) h
theorem late_eq {deeds late : List Ev} {ns : List Int} (h : deeds ++ (ns.map fun x36 => ((("answer" : Str), x36, none) : Ev)) = late) : late = app deeds ns := h.symm
theorem late_ok {deeds late : List Ev} {names : List Int} (hD : Deeds deeds) (hn : sset (deeds.map fun x15 => (x15).2.1) = names) (h : deeds ++ (names.map fun x36 => ((("answer" : Str), x36, none) : Ev)) = late) : Ok late := by
  obtain ⟨n1, n2, n3⟩ := names_in hn
  rw [late_eq h]
  exact app_ok hD (nodup_of (fun a => by omega) n2) (by have := hD.len; omega)
theorem later_ok {deeds later : List Ev} {names : List Int} (hD : Deeds deeds) (hn : sset (deeds.map fun x15 => (x15).2.1) = names) (h : deeds ++ (names.reverse.map fun x36 => ((("answer" : Str), x36, none) : Ev)) = later) : Ok later := by
  obtain ⟨n1, n2, n3⟩ := names_in hn
  rw [late_eq h]
  exact app_ok hD ((List.reverse_perm _).nodup_iff.mpr (nodup_of (fun a => by omega) n2)) (by have := hD.len; rw [List.length_reverse]; omega)
/-- unsafe where all is answered at the end, in some order -/
theorem app_fu {deeds : List Ev} {ns : List Int} {R : Int → Int → Prop} [DecidableRel R] (hD : Deeds deeds) (hok : Ok (app deeds ns)) (hR : ∀ a b, R a b → ¬ R b a) (hT : ∀ a b, a ≠ b → R a b ∨ R b a) (hI : ∀ a, ¬ R a a) (hp : ns.Pairwise R) (hin : ∀ e ∈ deeds, e.2.1 ∈ ns) :
    m_first_unsafe (app deeds ns) = fst1 (fun x47 => ((!((x47).2.2).isNone) && decide (R (x47).2.1 (((x47).2.2).getD 0)))) (rdsP deeds) := by
  rw [fu_eq hok, app_rds]
  apply fst1_congr
  intro r hr
  obtain ⟨⟨b, hb, _, hb2⟩, hw⟩ := rds_mem r hr
  have h1 : r.2.1 ∈ ns := hb2 ▸ hin b hb
  unfold uB
  cases hq : r.2.2 with
  | none => simp
  | some w =>
    obtain ⟨c, hc, _, hc2⟩ := hw w hq
    have h2 : w ∈ ns := hc2 ▸ hin c hc
    simp only [Option.isNone_some, Option.getD_some, Bool.not_false, Bool.true_and]
    obtain ⟨x, hx, _⟩ := app_an (d := deeds) ns _ h1
    obtain ⟨y, hy, _⟩ := app_an (d := deeds) ns _ h2
    simp only [hx, hy, Option.isSome_some, Option.getD_some, Bool.not_true, Bool.false_or, Bool.and_true]
    by_cases e : (some w : Option Int) = some r.2.1
    · have e2 := Option.some.inj e
      rw [decide_eq_true e, e2, decide_eq_false (hI _)]; rfl
    · rw [decide_eq_false e]
      have ne : r.2.1 ≠ w := fun q => e (by rw [q])
      show (true && decide (x < y)) = _
      rw [Bool.true_and]
      rcases hT _ _ ne with q | q
      · obtain ⟨x', y', a1, a2, a3⟩ := app_lt (d := deeds) hR hI ns hp _ h1 _ h2 q
        rw [hx] at a1; rw [hy] at a2; cases a1; cases a2
        rw [decide_eq_true a3, decide_eq_true q]
      · obtain ⟨x', y', a1, a2, a3⟩ := app_lt (d := deeds) hR hI ns hp _ h2 _ h1 q
        rw [hy] at a1; rw [hx] at a2; cases a1; cases a2
        rw [decide_eq_false (by omega), decide_eq_false (hR _ _ q)]
theorem app_fd {deeds : List Ev} {ns : List Int} (hD : Deeds deeds) (hok : Ok (app deeds ns)) (hin : ∀ e ∈ deeds, e.2.1 ∈ ns) : m_first_dirty (app deeds ns) = m_first_dirty deeds := by
  rw [fd_eq hok, fd_eq hD.ok, app_rds]
  apply fst1_congr
  intro r hr
  have hlt := rds_lt r hr
  unfold dB
  cases hq : r.2.2 with
  | none => simp
  | some w =>
    obtain ⟨c, hc, _, hc2⟩ := (rds_mem r hr).2 w hq
    obtain ⟨y, hy, hy2⟩ := app_an (d := deeds) ns w (hc2 ▸ hin c hc)
    simp only [Option.getD_some, hy, hD.an, Option.getD_none]
    rw [decide_eq_true hlt.2, decide_eq_true (show r.1 < y by omega)]
theorem nv3 {deeds late later : List Ev} {names ahead behind : List Int} (hD : Deeds deeds) (hn : sset (deeds.map fun x15 => (x15).2.1) = names) (hl : deeds ++ (names.map fun x36 => ((("answer" : Str), x36, none) : Ev)) = late) (hl2 : deeds ++ (names.reverse.map fun x36 => ((("answer" : Str), x36, none) : Ev)) = later)
    (ha : (((m_reads_of (deeds)).filter fun x47 => ((!((x47).2.2).isNone) && (decide ((x47).2.1 < (((x47).2.2).getD 0))))).map fun x47 => (x47).1) = ahead) (hb : (((m_reads_of (deeds)).filter fun x47 => ((!((x47).2.2).isNone) && (decide ((((x47).2.2).getD 0) < (x47).2.1)))).map fun x47 => (x47).1) = behind) :
    ((!decide ((m_first_unsafe (late)) = (if (!decide (ahead = ([] : List Int))) = true then (some (ixI 0 ahead (0 : Int))) else none))) || ((!decide ((m_first_unsafe (later)) = (if (!decide (behind = ([] : List Int))) = true then (some (ixI 0 behind (0 : Int))) else none))) || (!decide ((m_first_dirty (late)) = (m_first_dirty (deeds)))))) = false := by
  have ok1 := late_ok hD hn hl
  have ok2 := later_ok hD hn hl2
  obtain ⟨n1, n2, n3⟩ := names_in hn
  rw [late_eq hl] at ok1 ⊢
  rw [late_eq hl2] at ok2 ⊢
  have i1 : ∀ e ∈ deeds, e.2.1 ∈ names := fun e he => (n1 _).mpr ⟨e, he, rfl⟩
  rw [← ha, ← hb, reads_eq hD.ok, fst1_head, fst1_head, app_fd hD ok1 i1,
    app_fu (R := fun a b => a < b) hD ok1 (fun a b => by omega) (fun a b => by omega) (fun a => by omega) n2 i1,
    app_fu (R := fun a b => b < a) hD ok2 (fun a b => by omega) (fun a b => by omega) (fun a => by omega) (List.pairwise_reverse.mpr n2) (fun e he => List.mem_reverse.mpr (i1 e he))]
  simp
end B
set_option Elab.async false
set_option linter.all false
set_option maxRecDepth 100000
set_option maxHeartbeats 1000000
namespace B
open PySem PySem.Spec PyProof.Rows L2 Z
theorem ix0_of {xs : List Int} (h : (!decide (xs = ([] : List Int))) = true) : -(xs.length : Int) ≤ (0 : Int) ∧ (0 : Int) < xs.length := by
  simp only [Bool.not_eq_true', decide_eq_false_iff_not] at h
  have := List.length_pos_iff.mpr h
  omega
theorem rds_len {evs : List Ev} : (rdsP evs).length ≤ evs.length := by
  unfold rdsP
  rw [List.length_map]
  exact Nat.le_trans (List.length_filter_le _ _) (by rw [enumT_len]; exact Nat.le_refl _)
theorem reads_le {evs : List Ev} (h : Ok evs) : (m_reads_of evs).length ≤ 100000 := by
  rw [reads_eq h]
  have := rds_len (evs := evs)
  have := h.1
  omega
theorem ok_cut {evs : List Ev} {l u : Option Int} (h : Ok evs) : Ok (cutL evs l u) := h.sub ((List.take_sublist _ _).trans (List.drop_sublist _ _))
/-! the first events alone -/
theorem rds_take {evs : List Ev} (i : Nat) : rdsP (evs.take i) = (rdsP evs).filter (fun x => decide (x.1 < (i : Int))) := by
  refine snoc_ind (P := fun evs => rdsP (evs.take i) = (rdsP evs).filter (fun x => decide (x.1 < (i : Int)))) ?_ ?_ evs
  · simp [rdsP, enumT]
  · intro l e ih
    by_cases hi : i ≤ l.length
    · rw [List.take_append_of_le_length hi, ih, rds_snoc, List.filter_append]
      have : (if e.1 = "read" then [((l.length : Int), e.2.1, lst (rowOf l (pgE e)))] else []).filter (fun x => decide (x.1 < (i : Int))) = [] := by
        split
        · rw [List.filter_cons_of_neg (by show ¬ decide ((l.length : Int) < (i : Int)) = true; rw [decide_eq_false (by omega)]; exact Bool.false_ne_true)]; rfl
        · rfl
      rw [this, List.append_nil]
    · rw [List.take_of_length_le (by rw [List.length_append]; simp only [List.length_cons, List.length_nil]; omega)]
      symm
      apply List.filter_eq_self.mpr
      intro r hr
      have := rds_lt r hr
      rw [List.length_append] at this
      simp only [List.length_cons, List.length_nil] at this
      exact decide_eq_true (by omega)
theorem an_take {evs : List Ev} (h : Ok evs) (i : Nat) (n : Int) : An (evs.take i) n = match An evs n with | some a => if a < (i : Int) then some a else none | none => none := by
  revert h
  refine snoc_ind (P := fun evs => Ok evs → An (evs.take i) n = match An evs n with | some a => if a < (i : Int) then some a else none | none => none) ?_ ?_ evs
  · intro _; simp [an_nil]
  · intro l e ih h
    by_cases hi : i ≤ l.length
    · rw [List.take_append_of_le_length hi, ih h.init, an_snoc]
      by_cases q : e.1 = "answer" ∧ e.2.1 = n
      · rw [if_pos q]
        have hn : An l n = none := q.2 ▸ an_new h
        rw [hn]
        show none = if ((l.length : Int)) < (i : Int) then some _ else none
        rw [if_neg (by omega)]
      · rw [if_neg q]
    · rw [List.take_of_length_le (by rw [List.length_append]; simp only [List.length_cons, List.length_nil]; omega)]
      cases q : An (l ++ [e]) n with
      | none => rfl
      | some a =>
        have := an_lt q
        rw [List.length_append] at this
        simp only [List.length_cons, List.length_nil] at this
        show some a = if a < (i : Int) then some a else none
        rw [if_pos (by omega)]
theorem cut_pos {events : List Ev} {x : Int} (hx : 0 ≤ x ∧ x < (events.length : Int) + 1) : cutL events none (some x) = events.take x.toNat := cut_take _ _ hx.1 (by omega)
theorem nv5 {events : List Ev} {x93 : Int} (hK : Ok events) (hx : 0 ≤ x93 ∧ x93 < (events.length : Int) + 1) : (!decide ((m_reads_of (cutL events none (some x93))) = ((((m_reads_of (events))).filter fun x100 => (decide ((x100).1 < x93))).map fun x100 => x100))) = false := by
  rw [reads_eq (ok_cut hK), reads_eq hK, cut_pos hx, rds_take, List.map_id', Int.toNat_of_nonneg hx.1]
  simp
theorem nv6 {events : List Ev} {x93 : Int} (hK : Ok events) (hx : 0 ≤ x93 ∧ x93 < (events.length : Int) + 1) : (!decide ((m_first_dirty (cutL events none (some x93))) = (if ((!((m_first_dirty (events))).isNone) && (decide ((((m_first_dirty (events))).getD 0) < x93))) = true then (m_first_dirty (events)) else none))) = false := by
  have hc := cut_pos hx
  have hO : Ok (events.take x93.toNat) := hc ▸ ok_cut hK
  rw [hc, fd_eq hO, fd_eq hK, rds_take, Int.toNat_of_nonneg hx.1]
  rw [fst1_cut (p := dB (An events) events.length) (rds_asc events) fun r hr hlt => ?_]
  · simp
  · have hlen := rds_lt r hr
    unfold dB
    rw [an_take hK, Int.toNat_of_nonneg hx.1]
    congr 2
    rw [List.length_take]
    rcases opt_cases (An events (r.2.2.getD 0)) with q | ⟨a, q⟩
    · simp only [q, Option.getD_none]
      rw [Bool.eq_iff_iff]; simp only [decide_eq_true_eq]; omega
    · simp only [q, Option.getD_some]
      split
      · rfl
      · simp only [Option.getD_none]
        rw [Bool.eq_iff_iff]; simp only [decide_eq_true_eq]; omega
/-! one more end -/
theorem rds_end {l : List Ev} {w : Str} {n : Int} (hw : w ≠ "read") : rdsP (l ++ [((w, n, none) : Ev)]) = rdsP l := by
  rw [rds_snoc, if_neg (show ¬ ((w, n, none) : Ev).1 = "read" from hw), List.append_nil]
theorem end_new {events : List Ev} {n : Int} (hK : Ok events) (hq : (!(((events).map fun x => ((decide ((((x).1, (x).2.1, none) : Ev) = ((("answer" : Str), n, none) : Ev))) || (decide ((((x).1, (x).2.1, none) : Ev) = ((("stop" : Str), n, none) : Ev))))).any id)) = true) : ∀ b ∈ events, isEnd b = true → n ≠ b.2.1 := by
  intro b hb he e
  simp only [Bool.not_eq_true', List.any_map, List.any_eq_false] at hq
  have := hq b hb
  simp only [Function.comp_apply, id, Bool.or_eq_true, decide_eq_true_eq, not_or] at this
  rcases isEnd_iff.mp he with q | q
  · exact this.1 (by rw [q, ← e])
  · exact this.2 (by rw [q, ← e])
theorem more_ok {events : List Ev} {n : Int} {w : Str} (hE : Drawn events) (hn : ∀ b ∈ events, isEnd b = true → n ≠ b.2.1) (hw : w = "answer" ∨ w = "stop") : Ok (events ++ [((w, n, none) : Ev)]) := by
  refine hE.ok.snoc (by have := hE.len; omega) ?_ hn
  rcases hw with q | q
  · exact .inl ⟨q, rfl⟩
  · exact .inr (.inl ⟨q, rfl⟩)
theorem nv7 {events : List Ev} {n : Int} (hE : Drawn events) (hn : ∀ b ∈ events, isEnd b = true → n ≠ b.2.1) : ((!decide ((m_reads_of (events ++ (((("stop" : Str), n, none) : Ev) :: ([] : List Ev)))) = (m_reads_of (events)))) || ((!decide ((m_first_dirty (events ++ (((("stop" : Str), n, none) : Ev) :: ([] : List Ev)))) = (m_first_dirty (events)))) || (!decide ((m_first_unsafe (events ++ (((("stop" : Str), n, none) : Ev) :: ([] : List Ev)))) = (m_first_unsafe (events)))))) = false := by
  have hO := more_ok hE hn (.inr rfl)
  have ha : ∀ m, An (events ++ [((("stop" : Str), n, none) : Ev)]) m = An events m := fun m => by rw [an_snoc, if_neg (fun q => ne_sa q.1)]
  have h1 : m_reads_of (events ++ [((("stop" : Str), n, none) : Ev)]) = m_reads_of events := by rw [reads_eq hO, reads_eq hE.ok, rds_end ne_rs.symm]
  have h2 : m_first_dirty (events ++ [((("stop" : Str), n, none) : Ev)]) = m_first_dirty events := by
    rw [fd_eq hO, fd_eq hE.ok, rds_end ne_rs.symm]
    apply fst1_congr
    intro r hr
    have hlt := rds_lt r hr
    unfold dB
    rw [ha, List.length_append]
    congr 2
    rcases opt_cases (An events (r.2.2.getD 0)) with q | ⟨a, q⟩
    · simp only [q, Option.getD_none]
      rw [Bool.eq_iff_iff]; simp only [decide_eq_true_eq, List.length_cons, List.length_nil]; omega
    · simp only [q, Option.getD_some]
  have h3 : m_first_unsafe (events ++ [((("stop" : Str), n, none) : Ev)]) = m_first_unsafe events := by
    rw [fu_eq hO, fu_eq hE.ok, rds_end ne_rs.symm, show An (events ++ [((("stop" : Str), n, none) : Ev)]) = An events from funext ha]
  rw [decide_eq_true h1, decide_eq_true h2, decide_eq_true h3]; rfl
theorem fst1_headle {p : Rd3 → Bool} {l : List Rd3} {row : List Int} (h : ((l.filter p).map fun x => x.1) = row) (hne : row ≠ []) : ∃ r ∈ l, p r = true ∧ r.1 = ixI 0 row 0 := by
  have hh := fst1_head (p := p) l
  rw [h, if_pos (by simp [hne])] at hh
  exact fst1_some hh.symm
theorem nv8 {events : List Ev} {n : Int} {rows : List Int} (hE : Drawn events) (hn : ∀ b ∈ events, isEnd b = true → n ≠ b.2.1)
    (hr : (((m_reads_of (events)).filter fun x125 => ((decide ((x125).2.1 = n)) && ((!((x125).2.2).isNone) && ((!decide ((x125).2.2 = (some n))) && (!((((events).map fun x136 => (decide (x136 = ((("answer" : Str), (((x125).2.2).getD 0), none) : Ev))))).any id)))))).map fun x125 => (x125).1) = rows) :
    (((!((m_first_unsafe (events ++ (((("answer" : Str), n, none) : Ev) :: ([] : List Ev))))).isNone) && ((!((m_first_unsafe (events))).isNone) && (decide ((((m_first_unsafe (events))).getD 0) < (((m_first_unsafe (events ++ (((("answer" : Str), n, none) : Ev) :: ([] : List Ev))))).getD 0))))) || ((!decide (rows = ([] : List Int))) && (((m_first_unsafe (events ++ (((("answer" : Str), n, none) : Ev) :: ([] : List Ev))))).isNone || (decide ((ixI 0 rows (0 : Int)) < (((m_first_unsafe (events ++ (((("answer" : Str), n, none) : Ev) :: ([] : List Ev))))).getD 0)))))) = false := by
  have hO := more_ok hE hn (.inl rfl)
  have ha : ∀ m, An (events ++ [((("answer" : Str), n, none) : Ev)]) m = if n = m then some (events.length : Int) else An events m := fun m => by
    rw [an_snoc]
    by_cases e : n = m
    · rw [if_pos ⟨rfl, e⟩, if_pos e]
    · rw [if_neg (fun q => e q.2), if_neg e]
  have hf := fu_eq hO
  rw [rds_end ne_ra.symm] at hf
  have hnn : An events n = none := an_none fun b hb h1 h2 => hn b hb (isEnd_iff.mpr (.inl h1)) h2.symm
  rw [reads_eq hE.ok] at hr
  -- unsafe ahead of it, unsafe behind it
  have up : ∀ r ∈ rdsP events, uB (An events) r = true → uB (An (events ++ [((("answer" : Str), n, none) : Ev)])) r = true := by
    intro r hr h
    unfold uB at h ⊢
    simp only [Bool.and_eq_true, Bool.or_eq_true, decide_eq_true_eq, Bool.not_eq_true'] at h ⊢
    obtain ⟨⟨h1, h2, h3⟩, h4⟩ := h
    have hone : ¬ n = r.2.1 := fun e => by rw [← e, hnn] at h3; cases h3
    rw [ha, ha, if_neg hone]
    refine ⟨⟨h1, h2, h3⟩, ?_⟩
    by_cases e : n = r.2.2.getD 0
    · rw [if_pos e]
      right
      obtain ⟨b, hb⟩ := Option.isSome_iff_exists.mp h3
      rw [hb]; exact (an_lt hb).2
    · rw [if_neg e]; exact h4
  have a1 : ∀ u, m_first_unsafe events = some u → ∃ d, m_first_unsafe (events ++ [((("answer" : Str), n, none) : Ev)]) = some d ∧ d ≤ u := by
    intro u hu
    rw [fu_eq hE.ok] at hu
    obtain ⟨r, hr2, hp, rfl⟩ := fst1_some hu
    rw [hf]
    exact fst1_le (rds_asc events) r hr2 (up r hr2 hp)
  have a2 : rows ≠ [] → ∃ d, m_first_unsafe (events ++ [((("answer" : Str), n, none) : Ev)]) = some d ∧ d ≤ ixI 0 rows 0 := by
    intro hne
    obtain ⟨r, hr2, hp, h3⟩ := fst1_headle hr hne
    rw [hf, ← h3]
    refine fst1_le (rds_asc events) r hr2 ?_
    simp only [Bool.and_eq_true, decide_eq_true_eq, Bool.not_eq_true', decide_eq_false_iff_not, List.any_map, List.any_eq_false, Function.comp_apply, id] at hp
    obtain ⟨p1, p2, p3, p4⟩ := hp
    cases hw : r.2.2 with
    | none => rw [hw] at p2; cases p2
    | some wr =>
      rw [hw] at p3 p4
      have hne2 : ¬ n = wr := fun e => p3 (by rw [e])
      have hnone : An events wr = none := an_none fun b hb h1 h2 => by
        have hg := gd_len (hE.ok.2.1 b hb)
        have hpn := (hg.2.1 (isEnd_iff.mpr (.inl h1))).2
        refine p4 b hb ?_
        obtain ⟨x, y, z⟩ := b
        simp only at h1 h2 hpn
        simp only [Option.getD_some]
        rw [h1, h2, hpn]
      unfold uB
      rw [hw, ha, ha, if_pos p1.symm]
      simp only [Option.getD_some, if_neg hne2, hnone, p1]
      have : decide ((some wr : Option Int) = some n) = false := decide_eq_false fun e => hne2 (Option.some.inj e).symm
      rw [this]; rfl
  generalize m_first_unsafe (events ++ [((("answer" : Str), n, none) : Ev)]) = A at a1 a2 ⊢
  generalize m_first_unsafe events = U at a1 ⊢
  rw [Bool.or_eq_false_iff]
  constructor
  · cases U with
    | none => simp
    | some u =>
      obtain ⟨d, rfl, hd⟩ := a1 u rfl
      simp only [Option.isNone_some, Option.getD_some, Bool.not_false, Bool.true_and, decide_eq_false_iff_not]; omega
  · by_cases hne : rows = []
    · rw [decide_eq_true hne]; rfl
    · obtain ⟨d, rfl, hd⟩ := a2 hne
      rw [decide_eq_false hne]
      simp only [Option.isNone_some, Option.getD_some, Bool.not_false, Bool.true_and, Bool.false_or, decide_eq_false_iff_not]; omega
end B
set_option Elab.async false
set_option linter.all false
set_option maxRecDepth 100000
set_option maxHeartbeats 1000000
namespace B
open PySem PySem.Spec PyProof.Rows L2 Z
/-! commits one by one -/
def blk (deeds : List Ev) (c : Int) : List Ev := ((deeds).filter fun x85 => (decide ((x85).2.1 = c))).map fun x85 => x85
def ser (deeds : List Ev) (ns : List Int) : List Ev := ns.foldl (fun (s75 : (List Ev)) (x76 : Int) => (((s75 ++ (((deeds).filter fun x85 => (decide ((x85).2.1 = x76))).map fun x85 => x85)) ++ (((("answer" : Str), x76, none) : Ev) :: ([] : List Ev))))) []
theorem ser_snoc (deeds : List Ev) (ns : List Int) (c : Int) : ser deeds (ns ++ [c]) = (ser deeds ns ++ blk deeds c) ++ [anE c] := by
  unfold ser; rw [List.foldl_append]; rfl
def Safe (l : List Ev) : Prop := ∀ r ∈ rdsP l, ∀ w, r.2.2 = some w → w = r.2.1 ∨ ∃ a, An l w = some a ∧ a < r.1
structure Ser (ns : List Int) (S : List Ev) : Prop where
  safe : Safe S
  ans : ∀ e ∈ S, (An S e.2.1).isSome = true
  mem : ∀ e ∈ S, e.2.1 ∈ ns
  all : ∀ n ∈ ns, ∃ e ∈ S, e.1 = "answer" ∧ e.2.1 = n
  asc : S.Pairwise (fun a b => a.2.1 ≤ b.2.1)
  gd : ∀ e ∈ S, gdE e
  pw : S.Pairwise (fun a b => isEnd a = true → b.2.1 ≠ a.2.1)
  ns : ∀ e ∈ S, e.1 ≠ "stop"
theorem blk_mem {deeds : List Ev} {c : Int} {e : Ev} (h : e ∈ blk deeds c) : e ∈ deeds ∧ e.2.1 = c := by
  unfold blk at h
  rw [List.map_id'] at h
  exact ⟨(List.mem_filter.mp h).1, of_decide_eq_true (List.mem_filter.mp h).2⟩
theorem add_deeds {l : List Ev} {c : Int} (hs : Safe l) (ha : ∀ e ∈ l, (An l e.2.1).isSome = true) (Dd : List Ev) : (∀ e ∈ Dd, e.1 ∈ (("read" : Str) :: (("write" : Str) :: ([] : List Str))) ∧ e.2.1 = c) → Safe (l ++ Dd) ∧ ∀ n, An (l ++ Dd) n = An l n := by
  refine snoc_ind (P := fun Dd => (∀ e ∈ Dd, e.1 ∈ (("read" : Str) :: (("write" : Str) :: ([] : List Str))) ∧ e.2.1 = c) → Safe (l ++ Dd) ∧ ∀ n, An (l ++ Dd) n = An l n) ?_ ?_ Dd
  · intro _; rw [List.append_nil]; exact ⟨hs, fun _ => rfl⟩
  · intro D e ih h
    obtain ⟨h1, h2⟩ := ih fun x hx => h x (List.mem_append_left _ hx)
    obtain ⟨he, hc⟩ := h e (by simp)
    have hna := (deed_not he).1
    rw [← List.append_assoc]
    have h3 : ∀ n, An (l ++ D ++ [e]) n = An l n := fun n => by rw [an_snoc, if_neg (fun q => hna q.1), h2]
    refine ⟨fun r hr w hw => ?_, h3⟩
    rw [rds_snoc] at hr
    rw [h3]
    rcases List.mem_append.mp hr with q | q
    · rcases h1 r q w hw with a | ⟨a, a1, a2⟩
      · exact .inl a
      · exact .inr ⟨a, by rw [← h2]; exact a1, a2⟩
    · split at q
      · have hr2 := List.mem_singleton.mp q
        rw [hr2] at hw ⊢
        obtain ⟨b, hb, _, hb2, _⟩ := row_mem (lst_mem hw)
        rcases List.mem_append.mp hb with z | z
        · right
          obtain ⟨a, haa⟩ := Option.isSome_iff_exists.mp (ha b z)
          rw [hb2] at haa
          refine ⟨a, haa, ?_⟩
          have := (an_lt haa).2
          rw [List.length_append]; omega
        · left
          have := (h b (List.mem_append_left _ z)).2
          rw [← hb2, this, hc]
      · cases q
theorem ser_inv {deeds : List Ev} (hD : Deeds deeds) (ns : List Int) : ns.Pairwise (· < ·) → Ser ns (ser deeds ns) := by
  refine snoc_ind (P := fun ns => ns.Pairwise (· < ·) → Ser ns (ser deeds ns)) ?_ ?_ ns
  · intro _
    exact ⟨fun r hr => (by cases hr), fun e he => (by cases he), fun e he => (by cases he), fun n hn => (by cases hn), .nil, fun e he => (by cases he), .nil, fun e he => (by cases he)⟩
  · intro ns c ih hp
    obtain ⟨p1, _, p3⟩ := List.pairwise_append.mp hp
    have hlt : ∀ z ∈ ns, z < c := fun z hz => p3 z hz c (by simp)
    obtain ⟨i1, i2, i3, i4, i5, i6, i7, i8⟩ := ih p1
    rw [ser_snoc]
    obtain ⟨b1, b2⟩ := add_deeds (c := c) i1 i2 (blk deeds c) fun e he => ⟨hD.rw e (blk_mem he).1, (blk_mem he).2⟩
    have hmem : ∀ e ∈ ser deeds ns ++ blk deeds c ++ [anE c], e ∈ ser deeds ns ∨ (e ∈ blk deeds c) ∨ e = anE c := fun e he => by
      rcases List.mem_append.mp he with q | q
      · rcases List.mem_append.mp q with q | q
        · exact .inl q
        · exact .inr (.inl q)
      · exact .inr (.inr (List.mem_singleton.mp q))
    have hlen : (ser deeds ns).length ≤ (ser deeds ns ++ blk deeds c).length := by rw [List.length_append]; omega
    have han : ∀ n, An (ser deeds ns ++ blk deeds c ++ [anE c]) n = if c = n then some ((ser deeds ns ++ blk deeds c).length : Int) else An (ser deeds ns) n := fun n => by
      rw [an_snoc, b2]
      by_cases e : c = n
      · rw [if_pos ⟨rfl, e⟩, if_pos e]
      · rw [if_neg (fun q => e q.2), if_neg e]
    refine ⟨fun r hr w hw => ?_, fun e he => ?_, fun e he => ?_, fun n hn => ?_, ?_, fun e he => ?_, ?_, fun e he => ?_⟩
    · rw [rds_snoc, if_neg (show ¬ (anE c).1 = "read" from ne_ra.symm), List.append_nil] at hr
      rcases b1 r hr w hw with a | ⟨a, a1, a2⟩
      · exact .inl a
      · right
        rw [b2] at a1
        refine ⟨a, ?_, a2⟩
        rw [han, if_neg (fun e => ?_)]
        · exact a1
        · obtain ⟨b, hb, _, hb2⟩ := an_mem a1
          have := hlt _ (hb2 ▸ i3 b hb)
          omega
    · rw [han]
      split
      · rfl
      · rename_i ne
        rcases hmem e he with q | q | q
        · exact i2 e q
        · exact absurd (blk_mem q).2.symm ne
        · rw [q] at ne; exact absurd rfl ne
    · rcases hmem e he with q | q | q
      · exact List.mem_append_left _ (i3 e q)
      · rw [(blk_mem q).2]; simp
      · rw [q]; exact List.mem_append_right _ List.mem_cons_self
    · rcases List.mem_append.mp hn with q | q
      · obtain ⟨e, he, q⟩ := i4 n q
        exact ⟨e, by simp [he], q⟩
      · exact ⟨anE c, by simp, rfl, (List.mem_singleton.mp q).symm⟩
    · refine List.pairwise_append.mpr ⟨List.pairwise_append.mpr ⟨i5, ?_, fun a ha b hb => ?_⟩, List.pairwise_singleton _ _, fun a ha b hb => ?_⟩
      · exact List.Pairwise.imp_of_mem (R := fun _ _ => True) (fun ha hb _ => by rw [(blk_mem ha).2, (blk_mem hb).2]; exact Int.le_refl _) (List.pairwise_of_forall (fun _ _ => trivial))
      · rw [(blk_mem hb).2]; have := hlt _ (i3 a ha); omega
      · rw [List.mem_singleton.mp hb]
        show a.2.1 ≤ c
        rcases List.mem_append.mp ha with q | q
        · have := hlt _ (i3 a q); omega
        · rw [(blk_mem q).2]; exact Int.le_refl _
    · rcases hmem e he with q | q | q
      · exact i6 e q
      · exact hD.ok.2.1 e (blk_mem q).1
      · rw [q]; exact .inl ⟨rfl, rfl⟩
    · have nb : ∀ a ∈ blk deeds c, isEnd a = false := fun a ha => (deed_not (hD.rw a (blk_mem ha).1)).2.2
      refine List.pairwise_append.mpr ⟨List.pairwise_append.mpr ⟨i7, ?_, fun a ha b hb _ => ?_⟩, List.pairwise_singleton _ _, fun a ha b hb he => ?_⟩
      · exact List.Pairwise.imp_of_mem (R := fun _ _ => True) (fun ha hb _ he => by rw [nb _ ha] at he; cases he) (List.pairwise_of_forall (fun _ _ => trivial))
      · rw [(blk_mem hb).2]; have := hlt _ (i3 a ha); omega
      · rw [List.mem_singleton.mp hb]
        show c ≠ a.2.1
        rcases List.mem_append.mp ha with q | q
        · have := hlt _ (i3 a q); omega
        · rw [nb a q] at he; cases he
    · rcases hmem e he with q | q | q
      · exact i8 e q
      · exact (deed_not (hD.rw e (blk_mem q).1)).2.1
      · rw [q]; exact ne_sa.symm
theorem flt_two {deeds : List Ev} {ns : List Int} {c : Int} (h : c ∉ ns) : (deeds.filter fun x => decide (x.2.1 ∈ ns ++ [c])).length = (deeds.filter fun x => decide (x.2.1 ∈ ns)).length + (deeds.filter fun x => decide (x.2.1 = c)).length := by
  induction deeds with
  | nil => rfl
  | cons e r ih =>
    by_cases h1 : e.2.1 = c
    · rw [List.filter_cons_of_pos (by exact decide_eq_true (by rw [h1]; simp)), List.filter_cons_of_neg (by show ¬ decide (e.2.1 ∈ ns) = true; rw [decide_eq_false (by rw [h1]; exact h)]; exact Bool.false_ne_true), List.filter_cons_of_pos (by exact decide_eq_true h1), List.length_cons, List.length_cons, ih]; omega
    · rw [List.filter_cons_of_neg (p := fun x : Ev => decide (x.2.1 = c)) (by show ¬ decide (e.2.1 = c) = true; rw [decide_eq_false h1]; exact Bool.false_ne_true)]
      by_cases h2 : e.2.1 ∈ ns
      · rw [List.filter_cons_of_pos (by exact decide_eq_true (List.mem_append_left _ h2)), List.filter_cons_of_pos (by exact decide_eq_true h2), List.length_cons, List.length_cons, ih]; omega
      · have h3 : e.2.1 ∉ ns ++ [c] := fun q => by
          rcases List.mem_append.mp q with q | q
          · exact h2 q
          · exact h1 (List.mem_singleton.mp q)
        rw [List.filter_cons_of_neg (by show ¬ decide (e.2.1 ∈ ns ++ [c]) = true; rw [decide_eq_false h3]; exact Bool.false_ne_true), List.filter_cons_of_neg (by show ¬ decide (e.2.1 ∈ ns) = true; rw [decide_eq_false h2]; exact Bool.false_ne_true), ih]
theorem ser_len (deeds : List Ev) (ns : List Int) : ns.Nodup → (ser deeds ns).length = ns.length + (deeds.filter fun x => decide (x.2.1 ∈ ns)).length := by
  refine snoc_ind (P := fun ns => ns.Nodup → (ser deeds ns).length = ns.length + (deeds.filter fun x => decide (x.2.1 ∈ ns)).length) ?_ ?_ ns
  · intro _
    rw [List.filter_eq_nil_iff.mpr (by simp)]; rfl
  · intro ns c ih hn
    obtain ⟨n1, _, n3⟩ := List.nodup_append.mp hn
    have hc : c ∉ ns := fun q => n3 c q c (by simp) rfl
    rw [ser_snoc, List.length_append, List.length_append, ih n1, List.length_append, flt_two hc]
    unfold blk
    rw [List.length_map]
    simp only [List.length_cons, List.length_nil]; omega
theorem ser_ok {deeds serial : List Ev} {names : List Int} (hD : Deeds deeds) (hn : sset (deeds.map fun x15 => (x15).2.1) = names) (hs : ser deeds names = serial) : Ok serial := by
  obtain ⟨n1, n2, n3⟩ := names_in hn
  subst hs
  have I := ser_inv hD names n2
  refine ⟨?_, I.gd, I.pw⟩
  rw [ser_len deeds names (nodup_of (fun a => by omega) n2)]
  have h1 := List.length_filter_le (fun x : Ev => decide (x.2.1 ∈ names)) deeds
  have h2 := hD.len
  omega
theorem ser_st {deeds : List Ev} {names : List Int} (hD : Deeds deeds) (n2 : names.Pairwise (· < ·)) : m_standing (ser deeds names) = names := by
  have I := ser_inv hD names n2
  unfold m_standing
  refine asc_eq (asc_sset _) n2 fun k => ?_
  rw [mem_sset, List.mem_map]
  have hst : (((ser deeds names).filter fun x1 => (decide ((x1).1 = ("stop" : Str)))).map fun x1 => (x1).2.1) = [] := by
    rw [List.filter_eq_nil_iff.mpr fun a ha => by rw [decide_eq_false (I.ns a ha)]; exact Bool.false_ne_true]; rfl
  rw [hst]
  constructor
  · rintro ⟨e, he, rfl⟩
    exact I.mem e (List.mem_filter.mp he).1
  · intro hk
    obtain ⟨e, he, _, h2⟩ := I.all k hk
    exact ⟨e, List.mem_filter.mpr ⟨he, by simp⟩, h2⟩
theorem foldl_inv {α β : Type} {P : β → Prop} {f : β → α → β} : ∀ (xs : List α) (s : β), P s → (∀ s, P s → ∀ x ∈ xs, P (f s x)) → P (xs.foldl f s)
  | [], s, h, _ => h
  | x :: xs, s, h, hf => foldl_inv xs (f s x) (hf s h x List.mem_cons_self) fun s hs y hy => hf s hs y (List.mem_cons_of_mem _ hy)
theorem mem_cut_from {α : Type} {xs : List α} {i : Int} {x : α} (h0 : 0 ≤ i) (h : x ∈ cutL xs (some (i + 1)) none) : ∃ j : Nat, i.toNat < j ∧ xs[j]? = some x := by
  unfold cutL at h
  have h1 := List.mem_of_mem_take h
  obtain ⟨j, hj⟩ := List.mem_iff_getElem?.mp h1
  rw [List.getElem?_drop] at hj
  refine ⟨_, ?_, hj⟩
  have hl := (List.getElem?_eq_some_iff.mp hj).1
  revert hl
  unfold HT.sIx
  dsimp only
  rw [if_neg (by omega)]
  omega
theorem ser_jok {deeds serial : List Ev} {names : List Int} (hD : Deeds deeds) (hn : sset (deeds.map fun x15 => (x15).2.1) = names) (hs : ser deeds names = serial) : JOk serial := by
  refine ⟨ser_ok hD hn hs, ?_⟩
  obtain ⟨n1, n2, n3⟩ := names_in hn
  have hasc := (ser_inv hD names n2).asc
  rw [hs] at hasc
  unfold m_edges_of
  generalize hX : (((serial).filter fun x4 => ((decide ((x4).1 ∈ (("read" : Str) :: (("write" : Str) :: ([] : List Str))))) && (decide ((x4).2.1 ∈ (m_standing (serial)))))).map fun x4 => x4) = X
  have hXa : X.Pairwise (fun a b => a.2.1 ≤ b.2.1) := by
    rw [← hX, List.map_id']; exact hasc.sublist List.filter_sublist
  refine foldl_inv (P := fun s : List (Int × Int) => ∀ p ∈ s, p.1 < p.2) (enumT X) [] (fun p hp => by cases hp) fun s hs x hx => ?_
  obtain ⟨i, hi⟩ := List.mem_iff_getElem?.mp hx
  obtain ⟨_, e2, e3⟩ := enum_take hi
  refine foldl_inv (P := fun s : List (Int × Int) => ∀ p ∈ s, p.1 < p.2) _ s hs fun s hs y hy => ?_
  split
  · rename_i hq
    split
    · intro p hp
      rcases List.mem_append.mp hp with q | q
      · exact hs p q
      · rw [List.mem_singleton.mp q]
        obtain ⟨j, hj, hy2⟩ := mem_cut_from (by rw [e2]; omega) hy
        rw [e2] at hj
        obtain ⟨hi1, hi2⟩ := List.getElem?_eq_some_iff.mp e3
        obtain ⟨hj1, hj2⟩ := List.getElem?_eq_some_iff.mp hy2
        have := List.pairwise_iff_getElem.mp hXa i j hi1 hj1 (by simpa using hj)
        rw [hi2, hj2] at this
        simp only [Bool.and_eq_true, Bool.not_eq_true', decide_eq_false_iff_not] at hq
        have := hq.1
        show x.2.2.1 < y.2.1
        omega
    · exact hs
  · exact hs
theorem nv4 {deeds serial : List Ev} {names : List Int} (hD : Deeds deeds) (hn : sset (deeds.map fun x15 => (x15).2.1) = names) (hs : ser deeds names = serial) : ((!((m_first_dirty (serial))).isNone) || ((!((m_first_unsafe (serial))).isNone) || (!(m_InTurn_eq (m_standing serial) (names))))) = false := by
  have hO := ser_ok hD hn hs
  obtain ⟨n1, n2, n3⟩ := names_in hn
  have I := ser_inv hD names n2
  rw [hs] at I
  have h1 : m_first_dirty serial = none := by
    rw [fd_eq hO]
    refine fst1_none fun r hr => ?_
    unfold dB
    cases hw : r.2.2 with
    | none => rfl
    | some w =>
      rcases I.safe r hr w hw with e | ⟨a, a1, a2⟩
      · rw [decide_eq_true (show (some w : Option Int) = some r.2.1 by rw [e])]; rfl
      · simp only [Option.getD_some, a1]
        rw [decide_eq_false (show ¬ r.1 < a by omega)]; simp
  have h2 : m_first_unsafe serial = none := by
    rw [fu_eq hO]
    refine fst1_none fun r hr => ?_
    unfold uB
    cases hw : r.2.2 with
    | none => rfl
    | some w =>
      rcases I.safe r hr w hw with e | ⟨a, a1, a2⟩
      · rw [decide_eq_true (show (some w : Option Int) = some r.2.1 by rw [e])]; simp
      · rcases opt_cases (An serial r.2.1) with q | ⟨b, q⟩
        · simp [q]
        · have := rds_an hO r hr b q
          simp only [Option.getD_some, a1, q, Option.isSome_some, Bool.not_true, Bool.false_or]
          rw [decide_eq_false (show ¬ b < a by omega)]; simp
  have h3 : m_standing serial = names := by rw [← hs]; exact ser_st hD n2
  rw [h1, h2, h3]
  unfold m_InTurn_eq
  simp
/-! one commit alone -/
theorem alone_ok {events alone : List Ev} (hE : Drawn events) (h : ((events).filter fun x146 => (decide ((x146).2.1 = (0 : Int)))).map (fun x146 => x146) = alone) : Ok alone ∧ ∀ e ∈ alone, e.2.1 = 0 := by
  rw [List.map_id'] at h
  subst h
  exact ⟨hE.ok.sub List.filter_sublist, fun e he => of_decide_eq_true (List.mem_filter.mp he).2⟩
theorem nv9 {alone : List Ev} (h : Ok alone ∧ ∀ e ∈ alone, e.2.1 = 0) : ((!((m_first_dirty (alone))).isNone) || ((!((m_first_unsafe (alone))).isNone) || (((((m_reads_of (alone))).map fun x152 => (!(memB (x152).2.2 (none :: ((some (0 : Int)) :: ([] : List (Option Int)))))))).any id))) = false := by
  obtain ⟨hO, h0⟩ := h
  have hr0 : ∀ r ∈ rdsP alone, r.2.2 = none ∨ (r.2.2 = some 0 ∧ r.2.1 = 0) := by
    intro r hr
    obtain ⟨⟨b, hb, _, hb2⟩, hw⟩ := rds_mem r hr
    cases q : r.2.2 with
    | none => exact .inl rfl
    | some w =>
      obtain ⟨c, hc, _, hc2⟩ := hw w q
      exact .inr ⟨by rw [← hc2, h0 c hc], by rw [← hb2, h0 b hb]⟩
  have h1 : m_first_dirty alone = none := by
    rw [fd_eq hO]
    refine fst1_none fun r hr => ?_
    unfold dB
    rcases hr0 r hr with q | ⟨q, q2⟩
    · rw [q]; simp
    · rw [q]; simp [q2]
  have h2 : m_first_unsafe alone = none := by
    rw [fu_eq hO]
    refine fst1_none fun r hr => ?_
    unfold uB
    rcases hr0 r hr with q | ⟨q, q2⟩
    · rw [q]; simp
    · rw [q]; simp [q2]
  rw [h1, h2, reads_eq hO]
  simp only [Option.isNone_none, Bool.not_true, Bool.false_or, List.any_map, List.any_eq_false]
  intro r hr
  simp only [Function.comp_apply, id, Bool.not_eq_true', Bool.not_eq_false]
  rw [memB_iff]
  rcases hr0 r hr with q | ⟨q, _⟩ <;> rw [q] <;> simp
/-! other names -/
def tw (x161 : Ev) : Ev := (((x161).1, ((9 : Int) - (x161).2.1), (x161).2.2) : Ev)
def twr (r : Rd3) : Rd3 := (r.1, 9 - r.2.1, r.2.2.map fun w => 9 - w)
theorem tw_end (e : Ev) : isEnd (tw e) = isEnd e := rfl
theorem tw_ok {events : List Ev} (h : Ok events) : Ok (events.map tw) := by
  obtain ⟨h1, h2, h3⟩ := h
  refine ⟨by rw [List.length_map]; exact h1, fun e he => ?_, ?_⟩
  · obtain ⟨b, hb, rfl⟩ := List.mem_map.mp he
    exact h2 b hb
  · rw [List.pairwise_map]
    exact h3.imp fun {a b} q he => by
      have := q he
      show 9 - b.2.1 ≠ 9 - a.2.1
      omega
theorem tw_gone (l : List Ev) : goneOf (l.map tw) = (goneOf l).map fun w => 9 - w := by
  unfold goneOf
  rw [List.filter_map, List.map_map, List.map_map]
  rfl
theorem tw_row (l : List Ev) (p : Str) : rowOf (l.map tw) p = (rowOf l p).map fun w => 9 - w := by
  unfold rowOf
  rw [List.filter_map, List.map_map, List.map_map, tw_gone]
  congr 1
  apply List.filter_congr
  intro x hx
  show ((decide ((x).1 = ("write" : Str))) && ((decide ((pgE (x)) = p)) && (!(decide (9 - (x).2.1 ∈ (goneOf l).map fun w => 9 - w))))) = _
  congr 3
  rw [decide_eq_decide, List.mem_map]
  constructor
  · rintro ⟨w, hw, e⟩
    have : w = x.2.1 := by omega
    exact this ▸ hw
  · intro h; exact ⟨_, h, rfl⟩
theorem tw_lst (row : List Int) : lst (row.map fun w => 9 - w) = (lst row).map fun w => 9 - w := by
  unfold lst
  by_cases h : row = []
  · subst h; rfl
  · rw [if_pos (by simp [h]), if_pos (by simp [h])]
    have hl := List.length_pos_iff.mpr h
    have e1 := ixI_at (d := (0 : Int)) (xs := row) (i := -1) (by omega)
    have e2 := ixI_at (d := (0 : Int)) (xs := row.map fun w => 9 - w) (i := -1) (by rw [List.length_map]; omega)
    have e3 := atI_map (f := fun w : Int => 9 - w) e1
    rw [e2] at e3
    rw [Option.some.inj e3]; rfl
theorem tw_rds (events : List Ev) : rdsP (events.map tw) = (rdsP events).map twr := by
  refine snoc_ind (P := fun events => rdsP (events.map tw) = (rdsP events).map twr) rfl ?_ events
  intro l e ih
  rw [List.map_append, List.map_cons, List.map_nil, rds_snoc, rds_snoc, List.map_append, ih]
  congr 1
  show (if e.1 = "read" then _ else _) = _
  split
  · rw [tw_row, tw_lst, List.length_map]; rfl
  · rfl
theorem tw_an (events : List Ev) (n : Int) : An (events.map tw) n = An events (9 - n) := by
  refine snoc_ind (P := fun events => An (events.map tw) n = An events (9 - n)) rfl ?_ events
  intro l e ih
  rw [List.map_append, List.map_cons, List.map_nil, an_snoc, an_snoc, ih, List.length_map]
  have : (tw e).1 = "answer" ∧ (tw e).2.1 = n ↔ e.1 = "answer" ∧ e.2.1 = 9 - n := by
    show e.1 = "answer" ∧ 9 - e.2.1 = n ↔ _
    constructor
    · rintro ⟨a, b⟩; exact ⟨a, by omega⟩
    · rintro ⟨a, b⟩; exact ⟨a, by omega⟩
  by_cases q : e.1 = "answer" ∧ e.2.1 = 9 - n
  · rw [if_pos q, if_pos (this.mpr q)]
  · rw [if_neg q, if_neg (fun z => q (this.mp z))]
theorem fst1_map {p : Rd3 → Bool} (l : List Rd3) : fst1 p (l.map twr) = fst1 (fun r => p (twr r)) l := by
  unfold fst1
  rw [List.find?_map, Option.map_map]
  rfl
theorem nv10 {events twin : List Ev} (hK : Ok events) (h : (events).map (fun x161 => (((x161).1, ((9 : Int) - (x161).2.1), (x161).2.2) : Ev)) = twin) : ((decide ((m_first_dirty (twin)) = (m_first_dirty (events)))) && ((decide ((m_first_unsafe (twin)) = (m_first_unsafe (events)))) && (decide ((((m_reads_of (twin))).map fun x167 => ((x167).1, ((9 : Int) - (x167).2.1), (if (!((x167).2.2).isNone) = true then (some ((9 : Int) - (((x167).2.2).getD 0))) else none))) = (m_reads_of (events)))))) = true := by
  have h' : twin = events.map tw := h.symm
  subst h'
  have hO := tw_ok hK
  have nn : ∀ x : Int, 9 - (9 - x) = x := fun x => by omega
  have h1 : m_first_dirty (events.map tw) = m_first_dirty events := by
    rw [fd_eq hO, fd_eq hK, tw_rds, fst1_map, List.length_map]
    apply fst1_congr
    intro r hr
    obtain ⟨a, b, c⟩ := r
    unfold dB twr
    cases c with
    | none => rfl
    | some w =>
      simp only [Option.map_some, Option.getD_some, tw_an, nn, Option.isNone_some, Bool.not_false, Bool.true_and]
      congr 2
      rw [decide_eq_decide]
      constructor
      · intro q; have := Option.some.inj q; congr 1; omega
      · intro q; have := Option.some.inj q; congr 1; omega
  have h2 : m_first_unsafe (events.map tw) = m_first_unsafe events := by
    rw [fu_eq hO, fu_eq hK, tw_rds, fst1_map]
    apply fst1_congr
    intro r hr
    obtain ⟨a, b, c⟩ := r
    unfold uB twr
    cases c with
    | none => rfl
    | some w =>
      simp only [Option.map_some, Option.getD_some, tw_an, nn, Option.isNone_some, Bool.not_false, Bool.true_and]
      congr 3
      rw [decide_eq_decide]
      constructor
      · intro q; have := Option.some.inj q; congr 1; omega
      · intro q; have := Option.some.inj q; congr 1; omega
  have h3 : (((m_reads_of (events.map tw))).map fun x167 => ((x167).1, ((9 : Int) - (x167).2.1), (if (!((x167).2.2).isNone) = true then (some ((9 : Int) - (((x167).2.2).getD 0))) else none))) = m_reads_of events := by
    rw [reads_eq hO, reads_eq hK, tw_rds, List.map_map]
    conv => rhs; rw [← List.map_id (rdsP events)]
    apply List.map_congr_left
    rintro ⟨a, b, c⟩ _
    show (a, 9 - (9 - b), _) = (a, b, c)
    rw [nn]
    cases c with
    | none => rfl
    | some w =>
      show (a, b, some (9 - (9 - w))) = _
      rw [nn]
  rw [decide_eq_true h1, decide_eq_true h2, decide_eq_true h3]; rfl
end B
set_option Elab.async false
set_option linter.all false
set_option maxRecDepth 100000
set_option maxHeartbeats 40000000
namespace B
open PySem PySem.Spec PyProof.Rows L2 Z
section
variable {CI : Addr}
variable {P : Program} {w : World} {K : PySem.W.Frag} {mg : Str → Option Value} {base : Heap}
abbrev s32 : Stmt := topS 32
abbrev N32 : List Str := ["script", "draw", "events", "dirty", "unsafe", "deeds", "event", "names", "others", "at", "one", "writer", "late", "name", "later", "ahead", "behind", "serial", "deed", "early", "row", "more", "ended", "rows", "alone", "twin"]
theorem sc32 : FnScope N32 ["script"] (defScope s32) := ⟨rfl, rfl, rfl, by decide +kernel, rfl, by decide +kernel, by decide +kernel⟩
def r_law (K : PySem.W.Frag) : List D → D → Prop := fun ds d => ∃ ns : List Int, ns.length ≤ 63 ∧ ds = [eZ K ns] ∧ d = .bl true
theorem ev_events {X : Cx} {σ : L2.St} {F W : Hp} {a : Expr} {p pos : Pos} {dl sa : Addr} {k : Nat} {ns : List Int} (C : FnD X.prog X.w X.K X.mg X.base 4 "_law_events" ["draw"] (r_events X.K)) (hr : Room 4 X.A) (ha : EvS X a σ F (WK W dl sa k) (.ow dl) (WK W dl sa k)) (hz : ns.length ≤ 63) (rs : Rep F (.ref sa) (eZ X.K ns)) (hg : Gl X "_law_events" := by rfl)
    (h1 : starEach [a] X.env = (false, eval a X.env) :: starEach [] X.env := by rfl) (hpl : (backTo pos (starEach [] X.env)).any (·.1) = false := by rfl) :
    EvS X (.Call (.Name "_law_events" p) [a] [] pos) σ F (WK W dl sa k) (eR false eEv (evOf ns k).1) (WK W dl sa (evOf ns k).2.2) :=
  ev_callG C hr (ea_cons ha ea_nil h1) (fun F1 ex => ⟨dl, sa, ns, k, rfl, hz, WK_at, rs.mono ex, rfl, by unfold WK; rw [upd_upd]⟩) hg (by decide) h1 hpl
theorem d_law (T : Txt K mg) (Y : Cl K mg CI) (Me : MeD P w K mg base 1 CI "__eq__" ["self", "other"] (relP (r_InTurn_eq CI))) (InI : InD P w K mg base 1 "InTurn" CI ["self", "order"] rel_init) (C_reads_of : FnD P w K mg base 3 "reads_of" ["events"] (relP r_reads_of)) (C_first_unsafe : FnD P w K mg base 4 "first_unsafe" ["events"] (relP r_first_unsafe)) (C_first_dirty : FnD P w K mg base 4 "first_dirty" ["events"] (relP r_first_dirty)) (C__law_read : FnD P w K mg base 1 "_law_read" ["events"] (relP r__law_read)) (C__law_wrong : FnD P w K mg base 2 "_law_wrong" ["events", "is_dirty"] (relP r__law_wrong)) (C_judge_schedule : FnD P w K mg base 3 "judge_schedule" ["events"] (relP (r_judge CI))) (C_events : FnD P w K mg base 4 "_law_events" ["draw"] (r_events K)) {f : Addr} {fd : FuncData} (Fu : Fun K "law" "law" s32 f fd) : FnOk P w K mg base CX0 6 f fd ["script"] (spG (relP (r_law K))) := by
  refine fn_ok Fu sc32 (fun ds F W d W' h => by obtain ⟨⟨_, _, rfl, _⟩, _⟩ := h; rfl) (fun cdv A outer s H E hr ds W d W' vs F h hv => ?_)
  have nd_ := sc32.nd
  obtain ⟨⟨ns, hz_, rfl, rfl⟩, rfl⟩ := h
  cases hv with | @cons v_script _ _ _ h_script hv => ?_
  cases hv
  refine bl_asgN (i := 1) (en_lst (ea_cons (ev_var (i := 0) rfl h_script) (ea_cons ev_int ea_nil)) (by simp)) (fun dl vs_draw F_ e_ h_draw wn_draw => ?_)
  replace h_script := h_script.mono e_
  cases h_draw with | @cons v1 _ _ _ h_sa h_draw => ?_
  cases h_draw with | cons h2 h_draw => ?_
  cases h_draw
  cases h2
  obtain ⟨sa, rfl⟩ : ∃ sa, v1 = .ref sa := by obtain ⟨sa, _, e, _⟩ := Rep.fz_inv h_sa; exact ⟨sa, e⟩
  change BlkS _ _ _ _ (WK W' dl sa 0) _
  change BlkS _ _ [some v_script, some (.ref dl), none, none, none, none, none, none, none, none, none, none, none, none, none, none, none, none, none, none, none, none, none, none, none, none] _ _ _
  refine bl_asg (i := 2) (ev_events C_events (hr.mono (by decide)) (ev_var (i := 1) rfl (.ow _)) hz_ h_sa) (fun v_events F_ e1 h_events => ?_)
  have hl_events := rep_len h_events
  replace h_script := h_script.mono e1
  replace h_sa := h_sa.mono e1
  change BlkS _ _ [some v_script, some (.ref dl), some v_events, none, none, none, none, none, none, none, none, none, none, none, none, none, none, none, none, none, none, none, none, none, none, none] _ _ _
  have hE := drawn_of ns 0
  generalize hev : evOf ns 0 = ek at hE h_events hl_events ⊢
  obtain ⟨events, _, k1⟩ := ek
  dsimp only at hE h_events hl_events ⊢
  have hK := hE.ok
  refine bl_never (q := ((!decide ((m_reads_of (events)) = (m__law_read (events)))) || ((!decide ((m_first_dirty (events)) = (m__law_wrong (events) (true)))) || (!decide ((m_first_unsafe (events)) = (m__law_wrong (events) (false))))))) (et_w (ew_or (et_cm (ev_call C_reads_of (hr.mono (by decide)) (ea_cons (ev_bty T.tuple cl_tupleR (ea_cons (ev_var (i := 2) rfl h_events) ea_nil) rfl) ea_nil) (⟨true, (events), (by first | assumption | exact hp_.1 | omega), rfl, rfl⟩)) (ev_call C__law_read (hr.mono (by decide)) (ea_cons (ev_var (i := 2) rfl h_events) ea_nil) (⟨false, (events), (by first | assumption | exact hp_.1 | omega), rfl, rfl⟩)) (cm_ne (f := (eR false (eP3 D.int D.int (eO D.int)))) (x := (m_reads_of (events))) (y := (m__law_read (events))) hr (Lw.row (Lw.tripM lw_int lw_int (Lw.opt lw_int (fun _ => rfl) (fun _ => rfl)))))) (fun hb2 => (ew_or (et_cm (ev_call C_first_dirty (hr.mono (by decide)) (ea_cons (ev_var (i := 2) rfl h_events) ea_nil) (⟨false, (events), (by first | assumption | exact hp_.1 | omega), rfl, rfl⟩)) (ev_call C__law_wrong (hr.mono (by decide)) (ea_cons (ev_var (i := 2) rfl h_events) (ea_cons ev_bl ea_nil)) (⟨false, (events), (true), (by first | assumption | exact hp_.1 | omega), rfl, rfl⟩)) (cm_ne (f := (eO D.int)) (x := (m_first_dirty (events))) (y := (m__law_wrong (events) (true))) hr (Lw.opt lw_int (fun _ => rfl) (fun _ => rfl)))) (fun hb3 => (ew_or1 (et_cm (ev_call C_first_unsafe (hr.mono (by decide)) (ea_cons (ev_var (i := 2) rfl h_events) ea_nil) (⟨false, (events), (by first | assumption | exact hp_.1 | omega), rfl, rfl⟩)) (ev_call C__law_wrong (hr.mono (by decide)) (ea_cons (ev_var (i := 2) rfl h_events) (ea_cons ev_bl ea_nil)) (⟨false, (events), (false), (by first | assumption | exact hp_.1 | omega), rfl, rfl⟩)) (cm_ne (f := (eO D.int)) (x := (m_first_unsafe (events))) (y := (m__law_wrong (events) (false))) hr (Lw.opt lw_int (fun _ => rfl) (fun _ => rfl)))))))))) (by exact nv0 hE) ?_
  change BlkS _ _ [some v_script, some (.ref dl), some v_events, none, none, none, none, none, none, none, none, none, none, none, none, none, none, none, none, none, none, none, none, none, none, none] _ _ _
  refine bl_par2 (i := 3) (j := 4) (ea_cons (ev_call C_first_dirty (hr.mono (by decide)) (ea_cons (ev_var (i := 2) rfl h_events) ea_nil) (⟨false, (events), (by first | assumption | exact hp_.1 | omega), rfl, rfl⟩)) (ea_cons (ev_call C_first_unsafe (hr.mono (by decide)) (ea_cons (ev_var (i := 2) rfl h_events) ea_nil) (⟨false, (events), (by first | assumption | exact hp_.1 | omega), rfl, rfl⟩)) ea_nil)) (fun v_dirty v_unsafe F_ e5 h_dirty h_unsafe => ?_)
  replace h_script := h_script.mono e5
  replace h_sa := h_sa.mono e5
  replace h_events := h_events.mono e5
  change BlkS _ _ [some v_script, some (.ref dl), some v_events, some v_dirty, some v_unsafe, none, none, none, none, none, none, none, none, none, none, none, none, none, none, none, none, none, none, none, none, none] _ _ _
  refine bl_never (q := ((((m_first_dirty (events))).isNone && (!((m_first_unsafe (events))).isNone)) || ((!((m_first_dirty (events))).isNone) && ((!((m_first_unsafe (events))).isNone) && (decide ((((m_first_unsafe (events))).getD 0) < (((m_first_dirty (events))).getD 0))))))) (et_w (ew_or (et_w (ew_and (et_cm (ev_var (i := 3) rfl h_dirty) ev_non (cm_isO (f := D.int) (x := (m_first_dirty (events))) (fun _ => rfl))) (fun hb6 => (ew_and1 (et_cm (ev_var (i := 4) rfl h_unsafe) ev_non (cm_isnotO (f := D.int) (x := (m_first_unsafe (events))) (fun _ => rfl))))))) (fun hb7 => (ew_or1 (et_w (ew_and (et_cm (ev_var (i := 3) rfl h_dirty) ev_non (cm_isnotO (f := D.int) (x := (m_first_dirty (events))) (fun _ => rfl))) (fun hb8 => (ew_and (et_cm (ev_var (i := 4) rfl h_unsafe) ev_non (cm_isnotO (f := D.int) (x := (m_first_unsafe (events))) (fun _ => rfl))) (fun hb9 => (ew_and1 (et_cm (ev_is (d1 := D.int (((m_first_unsafe (events))).getD 0)) (ev_var (i := 4) rfl h_unsafe) (eO_get (by first | (have q_ := hb9; revert q_; cases hO_ : (m_first_unsafe (events)) <;> simp) | (have q_ := hb7; revert q_; cases hO_ : (m_first_unsafe (events)) <;> simp) | assumption))) (ev_is (d1 := D.int (((m_first_dirty (events))).getD 0)) (ev_var (i := 3) rfl h_dirty) (eO_get (by first | (have q_ := hb8; revert q_; cases hO_ : (m_first_dirty (events)) <;> simp) | (have q_ := hb7; revert q_; cases hO_ : (m_first_dirty (events)) <;> simp) | assumption))) cm_lt))))))))))) (by exact nv1 hE) ?_
  change BlkS _ _ [some v_script, some (.ref dl), some v_events, some v_dirty, some v_unsafe, none, none, none, none, none, none, none, none, none, none, none, none, none, none, none, none, none, none, none, none, none] _ _ _
  refine bl_asgLc (i := 5) (lc_F (own := [("event", 6)]) (f := eEv) (g := eEv) (fun x11 => (decide ((x11).1 ∈ (("read" : Str) :: (("write" : Str) :: ([] : List Str)))))) (fun x11 => x11) (ei_row (ev_var (i := 2) rfl h_events)) (by first | exact rep_len h_events | assumption | omega | (simp only [List.length_map, enumT_len, rg_len]; omega) | (simp; done) | (simp; omega)) (fun x11 hx12 v_ F1_ e_ r13 => by
      replace h_script := h_script.mono e_
      replace h_sa := h_sa.mono e_
      replace h_events := h_events.mono e_
      replace h_dirty := h_dirty.mono e_
      replace h_unsafe := h_unsafe.mono e_
      intro s_ H0_ C_ cl_ fp_
      refine tg_name (i := 6) ?_
      refine ⟨((wipe_set (by decide)).trans (wipe_wipe)), fun s_ H0_ C_ cl_ fp_ => ?_, fun ht_ s_ H0_ C_ cl_ fp_ => ?_⟩
      · exact ets_one (et_cm (ev_e0 (ev_var (i := 6) rfl r13) ev_int) (ev_tupR (("read" : Str) :: (("write" : Str) :: ([] : List Str))) (ea_consR (f := D.str) (x := ("read" : Str)) ev_str (ea_consR (f := D.str) (x := ("write" : Str)) ev_str (ea_nilR (f := D.str)))) (by simp [rg_len, enumT_len]; try omega)) (cm_in (f := D.str) (x := (x11).1) (xs := (("read" : Str) :: (("write" : Str) :: ([] : List Str)))) hr lw_str) (by with_unfolding_all rfl))
      · exact (ev_var (i := 6) rfl r13))) (ok := blkOk_by (N := N32) (sc := defScope s32) (by decide +kernel)) (fun v_deeds F_ e14 h_deeds => ?_)
  have hl_deeds := rep_len h_deeds
  replace h_script := h_script.mono e14
  replace h_sa := h_sa.mono e14
  replace h_events := h_events.mono e14
  replace h_dirty := h_dirty.mono e14
  replace h_unsafe := h_unsafe.mono e14
  change BlkS _ _ [some v_script, some (.ref dl), some v_events, some v_dirty, some v_unsafe, some v_deeds, none, none, none, none, none, none, none, none, none, none, none, none, none, none, none, none, none, none, none, none] _ _ _
  have hl_deeds := rep_len h_deeds
  generalize hd_deeds : (((events).filter fun x11 => (decide ((x11).1 ∈ (("read" : Str) :: (("write" : Str) :: ([] : List Str)))))).map fun x11 => x11) = deeds at h_deeds hl_deeds
  have hD := deeds_of hE hd_deeds
  have hOd := hD.ok
  have hdl := hD.len
  refine bl_asg (i := 7) (ev_sortset T.sorted T.set (ev_ofLc (lc_M (own := [("event", 6)]) (f := eEv) (g := D.int) (fun x15 => (x15).2.1) (ei_row (ev_var (i := 5) rfl h_deeds)) (by first | exact rep_len h_deeds | assumption | omega | (simp only [List.length_map, enumT_len, rg_len]; omega) | (simp; done) | (simp; omega)) (fun x15 hx16 v_ F1_ e_ r17 => by
      replace h_script := h_script.mono e_
      replace h_sa := h_sa.mono e_
      replace h_events := h_events.mono e_
      replace h_dirty := h_dirty.mono e_
      replace h_unsafe := h_unsafe.mono e_
      replace h_deeds := h_deeds.mono e_
      intro s_ H0_ C_ cl_ fp_
      refine tg_name (i := 6) ?_
      refine ⟨((wipe_set (by decide)).trans (wipe_wipe)), fun s_ H0_ C_ cl_ fp_ => ?_, fun ht_ s_ H0_ C_ cl_ fp_ => ?_⟩
      · exact ets_nil
      · exact (ev_e1 (ev_var (i := 6) rfl r17) ev_int))) (ok := blkOk_by (N := N32) (sc := defScope s32) (by decide +kernel))) (by rw [List.length_map]; omega)) (fun v_names F_ e18 h_names => ?_)
  have hl_names := rep_len h_names
  replace h_script := h_script.mono e18
  replace h_sa := h_sa.mono e18
  replace h_events := h_events.mono e18
  replace h_dirty := h_dirty.mono e18
  replace h_unsafe := h_unsafe.mono e18
  replace h_deeds := h_deeds.mono e18
  change BlkS _ _ [some v_script, some (.ref dl), some v_events, some v_dirty, some v_unsafe, some v_deeds, none, some v_names, none, none, none, none, none, none, none, none, none, none, none, none, none, none, none, none, none, none] _ _ _
  have hl_names := rep_len h_names
  generalize hd_names : (sset ((deeds).map fun x15 => (x15).2.1)) = names at h_names hl_names
  have hnl := (names_in hd_names).2.2
  refine bl_asgLc (i := 8) (lc_F (own := [("at", 9), ("one", 10), ("writer", 11)]) (f := (eP3 D.int D.int (eO D.int))) (g := D.int) (fun x19 => ((!((x19).2.2).isNone) && (!decide ((x19).2.2 = (some (x19).2.1))))) (fun x19 => (x19).1) (ei_row (ev_call C_reads_of (hr.mono (by decide)) (ea_cons (ev_var (i := 5) rfl h_deeds) ea_nil) (⟨false, (deeds), (by first | assumption | exact hp_.1 | omega), rfl, rfl⟩))) (by first | exact reads_le (by assumption) | assumption | omega | (simp only [List.length_map, enumT_len, rg_len]; omega) | (simp; done) | (simp; omega)) (fun x19 hx20 v_ F1_ e_ r21 => by
      replace h_script := h_script.mono e_
      replace h_sa := h_sa.mono e_
      replace h_events := h_events.mono e_
      replace h_dirty := h_dirty.mono e_
      replace h_unsafe := h_unsafe.mono e_
      replace h_deeds := h_deeds.mono e_
      replace h_names := h_names.mono e_
      intro s_ H0_ C_ cl_ fp_
      refine tg_tup (ds := [D.int ((x19).1), D.int ((x19).2.1), (eO D.int) ((x19).2.2)]) r21 (fun vs25 rr26 => ?_)
      cases rr26 with | @cons v_at _ _ _ h_at rr26 => ?_
      cases rr26 with | @cons v_one _ _ _ h_one rr26 => ?_
      cases rr26 with | @cons v_writer _ _ _ h_writer rr26 => ?_
      cases rr26
      refine tgs_cons ?_
      cases h_at
      refine tg_name (i := 9) ?_
      refine tgs_cons ?_
      cases h_one
      refine tg_name (i := 10) ?_
      refine tgs_cons ?_
      refine tg_name (i := 11) ?_
      refine tgs_nil ?_
      refine ⟨((wipe_set (by decide)).trans ((wipe_set (by decide)).trans ((wipe_set (by decide)).trans (wipe_wipe)))), fun s_ H0_ C_ cl_ fp_ => ?_, fun ht_ s_ H0_ C_ cl_ fp_ => ?_⟩
      · exact ets_one (et_w (ew_and (et_cm (ev_var (i := 11) rfl h_writer) ev_non (cm_isnotO (f := D.int) (x := (x19).2.2) (fun _ => rfl))) (fun hb27 => (ew_and1 (et_cm (ev_var (i := 11) rfl h_writer) (ev_is (d1 := (eO D.int) (some (x19).2.1)) (ev_var (i := 10) rfl (.int _)) rfl) (cm_ne (f := (eO D.int)) (x := (x19).2.2) (y := (some (x19).2.1)) hr (Lw.opt lw_int (fun _ => rfl) (fun _ => rfl))))))))
      · exact (ev_var (i := 9) rfl (.int _)))) (ok := blkOk_by (N := N32) (sc := defScope s32) (by decide +kernel)) (fun v_others F_ e28 h_others => ?_)
  have hl_others := rep_len h_others
  replace h_script := h_script.mono e28
  replace h_sa := h_sa.mono e28
  replace h_events := h_events.mono e28
  replace h_dirty := h_dirty.mono e28
  replace h_unsafe := h_unsafe.mono e28
  replace h_deeds := h_deeds.mono e28
  replace h_names := h_names.mono e28
  change BlkS _ _ [some v_script, some (.ref dl), some v_events, some v_dirty, some v_unsafe, some v_deeds, none, some v_names, some v_others, none, none, none, none, none, none, none, none, none, none, none, none, none, none, none, none, none] _ _ _
  have hl_others := rep_len h_others
  generalize hd_others : ((((m_reads_of (deeds))).filter fun x19 => ((!((x19).2.2).isNone) && (!decide ((x19).2.2 = (some (x19).2.1))))).map fun x19 => (x19).1) = others at h_others hl_others
  refine bl_never (q := ((!decide ((m_first_dirty (deeds)) = (if (!decide (others = ([] : List Int))) = true then (some (ixI 0 others (0 : Int))) else none))) || (!((m_first_unsafe (deeds))).isNone))) (et_w (ew_or (et_cm (ev_call C_first_dirty (hr.mono (by decide)) (ea_cons (ev_var (i := 5) rfl h_deeds) ea_nil) (⟨false, (deeds), (by first | assumption | exact hp_.1 | omega), rfl, rfl⟩)) (ev_if (f := (eO D.int)) (x := (some (ixI 0 others (0 : Int)))) (y := none) (et_cm (ev_var (i := 8) rfl h_others) (ev_lstR ([] : List Int) (ea_nilR (f := D.int)) (by simp [rg_len, enumT_len]; try omega)) (cm_ne (f := (eR false D.int)) (x := others) (y := ([] : List Int)) hr (Lw.row lw_int))) (fun hi29 => (ev_is (d1 := (eO D.int) (some (ixI 0 others (0 : Int)))) (ev_ix (ev_var (i := 8) rfl h_others) ev_int (ixI_at (d := 0) (by exact ix0_of (by assumption)))) rfl)) (fun hi30 => (ev_is (d1 := (eO D.int) none) ev_non rfl))) (cm_ne (f := (eO D.int)) (x := (m_first_dirty (deeds))) (y := (if (!decide (others = ([] : List Int))) = true then (some (ixI 0 others (0 : Int))) else none)) hr (Lw.opt lw_int (fun _ => rfl) (fun _ => rfl)))) (fun hb31 => (ew_or1 (et_cm (ev_call C_first_unsafe (hr.mono (by decide)) (ea_cons (ev_var (i := 5) rfl h_deeds) ea_nil) (⟨false, (deeds), (by first | assumption | exact hp_.1 | omega), rfl, rfl⟩)) ev_non (cm_isnotO (f := D.int) (x := (m_first_unsafe (deeds))) (fun _ => rfl))))))) (by exact nv2 hD hd_others) ?_
  change BlkS _ _ [some v_script, some (.ref dl), some v_events, some v_dirty, some v_unsafe, some v_deeds, none, some v_names, some v_others, none, none, none, none, none, none, none, none, none, none, none, none, none, none, none, none, none] _ _ _
  refine bl_asg (i := 12) (ev_catR (ev_var (i := 5) rfl h_deeds) (ev_ofLc (lc_M (own := [("name", 13)]) (f := D.int) (g := eEv) (fun x36 => ((("answer" : Str), x36, none) : Ev)) (ei_row (ev_var (i := 7) rfl h_names)) (by first | exact rep_len h_names | assumption | omega | (simp only [List.length_map, enumT_len, rg_len]; omega) | (simp; done) | (simp; omega)) (fun x36 hx37 v_ F1_ e_ r38 => by
      replace h_script := h_script.mono e_
      replace h_sa := h_sa.mono e_
      replace h_events := h_events.mono e_
      replace h_dirty := h_dirty.mono e_
      replace h_unsafe := h_unsafe.mono e_
      replace h_deeds := h_deeds.mono e_
      replace h_names := h_names.mono e_
      replace h_others := h_others.mono e_
      intro s_ H0_ C_ cl_ fp_
      cases r38
      refine tg_name (i := 13) ?_
      refine ⟨((wipe_set (by decide)).trans (wipe_wipe)), fun s_ H0_ C_ cl_ fp_ => ?_, fun ht_ s_ H0_ C_ cl_ fp_ => ?_⟩
      · exact ets_nil
      · exact (ev_e2t ev_str (ev_var (i := 13) rfl (.int _))))) (ok := blkOk_by (N := N32) (sc := defScope s32) (by decide +kernel))) (by simp only [List.length_map]; omega)) (fun v_late F_ e39 h_late => ?_)
  have hl_late := rep_len h_late
  replace h_script := h_script.mono e39
  replace h_sa := h_sa.mono e39
  replace h_events := h_events.mono e39
  replace h_dirty := h_dirty.mono e39
  replace h_unsafe := h_unsafe.mono e39
  replace h_deeds := h_deeds.mono e39
  replace h_names := h_names.mono e39
  replace h_others := h_others.mono e39
  change BlkS _ _ [some v_script, some (.ref dl), some v_events, some v_dirty, some v_unsafe, some v_deeds, none, some v_names, some v_others, none, none, none, some v_late, none, none, none, none, none, none, none, none, none, none, none, none, none] _ _ _
  have hl_late := rep_len h_late
  generalize hd_late : (deeds ++ ((names).map fun x36 => ((("answer" : Str), x36, none) : Ev))) = late at h_late hl_late
  have hOl := late_ok hD hd_names hd_late
  refine bl_asg (i := 14) (ev_catR (ev_var (i := 5) rfl h_deeds) (ev_ofLc (lc_M (own := [("name", 13)]) (f := D.int) (g := eEv) (fun x43 => ((("answer" : Str), x43, none) : Ev)) (ei_row (ev_rev (ev_var (i := 7) rfl h_names))) (by first | exact reads_le (by assumption) | assumption | omega | (simp only [List.length_map, enumT_len, rg_len]; omega) | (simp; done) | (simp; omega)) (fun x43 hx44 v_ F1_ e_ r45 => by
      replace h_script := h_script.mono e_
      replace h_sa := h_sa.mono e_
      replace h_events := h_events.mono e_
      replace h_dirty := h_dirty.mono e_
      replace h_unsafe := h_unsafe.mono e_
      replace h_deeds := h_deeds.mono e_
      replace h_names := h_names.mono e_
      replace h_others := h_others.mono e_
      replace h_late := h_late.mono e_
      intro s_ H0_ C_ cl_ fp_
      cases r45
      refine tg_name (i := 13) ?_
      refine ⟨((wipe_set (by decide)).trans (wipe_wipe)), fun s_ H0_ C_ cl_ fp_ => ?_, fun ht_ s_ H0_ C_ cl_ fp_ => ?_⟩
      · exact ets_nil
      · exact (ev_e2t ev_str (ev_var (i := 13) rfl (.int _))))) (ok := blkOk_by (N := N32) (sc := defScope s32) (by decide +kernel))) (by simp only [List.length_map, List.length_reverse]; omega)) (fun v_later F_ e46 h_later => ?_)
  have hl_later := rep_len h_later
  replace h_script := h_script.mono e46
  replace h_sa := h_sa.mono e46
  replace h_events := h_events.mono e46
  replace h_dirty := h_dirty.mono e46
  replace h_unsafe := h_unsafe.mono e46
  replace h_deeds := h_deeds.mono e46
  replace h_names := h_names.mono e46
  replace h_others := h_others.mono e46
  replace h_late := h_late.mono e46
  change BlkS _ _ [some v_script, some (.ref dl), some v_events, some v_dirty, some v_unsafe, some v_deeds, none, some v_names, some v_others, none, none, none, some v_late, none, some v_later, none, none, none, none, none, none, none, none, none, none, none] _ _ _
  have hl_later := rep_len h_later
  generalize hd_later : (deeds ++ (((names).reverse).map fun x43 => ((("answer" : Str), x43, none) : Ev))) = later at h_later hl_later
  have hOr := later_ok hD hd_names hd_later
  refine bl_asgLc (i := 15) (lc_F (own := [("at", 9), ("one", 10), ("writer", 11)]) (f := (eP3 D.int D.int (eO D.int))) (g := D.int) (fun x47 => ((!((x47).2.2).isNone) && (decide ((x47).2.1 < (((x47).2.2).getD 0))))) (fun x47 => (x47).1) (ei_row (ev_call C_reads_of (hr.mono (by decide)) (ea_cons (ev_var (i := 5) rfl h_deeds) ea_nil) (⟨false, (deeds), (by first | assumption | exact hp_.1 | omega), rfl, rfl⟩))) (by first | exact reads_le (by assumption) | assumption | omega | (simp only [List.length_map, enumT_len, rg_len]; omega) | (simp; done) | (simp; omega)) (fun x47 hx48 v_ F1_ e_ r49 => by
      replace h_script := h_script.mono e_
      replace h_sa := h_sa.mono e_
      replace h_events := h_events.mono e_
      replace h_dirty := h_dirty.mono e_
      replace h_unsafe := h_unsafe.mono e_
      replace h_deeds := h_deeds.mono e_
      replace h_names := h_names.mono e_
      replace h_others := h_others.mono e_
      replace h_late := h_late.mono e_
      replace h_later := h_later.mono e_
      intro s_ H0_ C_ cl_ fp_
      refine tg_tup (ds := [D.int ((x47).1), D.int ((x47).2.1), (eO D.int) ((x47).2.2)]) r49 (fun vs53 rr54 => ?_)
      cases rr54 with | @cons v_at _ _ _ h_at rr54 => ?_
      cases rr54 with | @cons v_one _ _ _ h_one rr54 => ?_
      cases rr54 with | @cons v_writer _ _ _ h_writer rr54 => ?_
      cases rr54
      refine tgs_cons ?_
      cases h_at
      refine tg_name (i := 9) ?_
      refine tgs_cons ?_
      cases h_one
      refine tg_name (i := 10) ?_
      refine tgs_cons ?_
      refine tg_name (i := 11) ?_
      refine tgs_nil ?_
      refine ⟨((wipe_set (by decide)).trans ((wipe_set (by decide)).trans ((wipe_set (by decide)).trans (wipe_wipe)))), fun s_ H0_ C_ cl_ fp_ => ?_, fun ht_ s_ H0_ C_ cl_ fp_ => ?_⟩
      · exact ets_one (et_w (ew_and (et_cm (ev_var (i := 11) rfl h_writer) ev_non (cm_isnotO (f := D.int) (x := (x47).2.2) (fun _ => rfl))) (fun hb55 => (ew_and1 (et_cm (ev_is (d1 := D.int (((x47).2.2).getD 0)) (ev_var (i := 11) rfl h_writer) (eO_get (by first | (have q_ := hb55; revert q_; cases hO_ : (x47).2.2 <;> simp) | assumption))) (ev_var (i := 10) rfl (.int _)) cm_gt)))))
      · exact (ev_var (i := 9) rfl (.int _)))) (ok := blkOk_by (N := N32) (sc := defScope s32) (by decide +kernel)) (fun v_ahead F_ e56 h_ahead => ?_)
  have hl_ahead := rep_len h_ahead
  replace h_script := h_script.mono e56
  replace h_sa := h_sa.mono e56
  replace h_events := h_events.mono e56
  replace h_dirty := h_dirty.mono e56
  replace h_unsafe := h_unsafe.mono e56
  replace h_deeds := h_deeds.mono e56
  replace h_names := h_names.mono e56
  replace h_others := h_others.mono e56
  replace h_late := h_late.mono e56
  replace h_later := h_later.mono e56
  change BlkS _ _ [some v_script, some (.ref dl), some v_events, some v_dirty, some v_unsafe, some v_deeds, none, some v_names, some v_others, none, none, none, some v_late, none, some v_later, some v_ahead, none, none, none, none, none, none, none, none, none, none] _ _ _
  have hl_ahead := rep_len h_ahead
  generalize hd_ahead : ((((m_reads_of (deeds))).filter fun x47 => ((!((x47).2.2).isNone) && (decide ((x47).2.1 < (((x47).2.2).getD 0))))).map fun x47 => (x47).1) = ahead at h_ahead hl_ahead
  refine bl_asgLc (i := 16) (lc_F (own := [("at", 9), ("one", 10), ("writer", 11)]) (f := (eP3 D.int D.int (eO D.int))) (g := D.int) (fun x57 => ((!((x57).2.2).isNone) && (decide ((((x57).2.2).getD 0) < (x57).2.1)))) (fun x57 => (x57).1) (ei_row (ev_call C_reads_of (hr.mono (by decide)) (ea_cons (ev_var (i := 5) rfl h_deeds) ea_nil) (⟨false, (deeds), (by first | assumption | exact hp_.1 | omega), rfl, rfl⟩))) (by first | exact reads_le (by assumption) | assumption | omega | (simp only [List.length_map, enumT_len, rg_len]; omega) | (simp; done) | (simp; omega)) (fun x57 hx58 v_ F1_ e_ r59 => by
      replace h_script := h_script.mono e_
      replace h_sa := h_sa.mono e_
      replace h_events := h_events.mono e_
      replace h_dirty := h_dirty.mono e_
      replace h_unsafe := h_unsafe.mono e_
      replace h_deeds := h_deeds.mono e_
      replace h_names := h_names.mono e_
      replace h_others := h_others.mono e_
      replace h_late := h_late.mono e_
      replace h_later := h_later.mono e_
      replace h_ahead := h_ahead.mono e_
      intro s_ H0_ C_ cl_ fp_
      refine tg_tup (ds := [D.int ((x57).1), D.int ((x57).2.1), (eO D.int) ((x57).2.2)]) r59 (fun vs63 rr64 => ?_)
      cases rr64 with | @cons v_at _ _ _ h_at rr64 => ?_
      cases rr64 with | @cons v_one _ _ _ h_one rr64 => ?_
      cases rr64 with | @cons v_writer _ _ _ h_writer rr64 => ?_
      cases rr64
      refine tgs_cons ?_
      cases h_at
      refine tg_name (i := 9) ?_
      refine tgs_cons ?_
      cases h_one
      refine tg_name (i := 10) ?_
      refine tgs_cons ?_
      refine tg_name (i := 11) ?_
      refine tgs_nil ?_
      refine ⟨((wipe_set (by decide)).trans ((wipe_set (by decide)).trans ((wipe_set (by decide)).trans (wipe_wipe)))), fun s_ H0_ C_ cl_ fp_ => ?_, fun ht_ s_ H0_ C_ cl_ fp_ => ?_⟩
      · exact ets_one (et_w (ew_and (et_cm (ev_var (i := 11) rfl h_writer) ev_non (cm_isnotO (f := D.int) (x := (x57).2.2) (fun _ => rfl))) (fun hb65 => (ew_and1 (et_cm (ev_is (d1 := D.int (((x57).2.2).getD 0)) (ev_var (i := 11) rfl h_writer) (eO_get (by first | (have q_ := hb65; revert q_; cases hO_ : (x57).2.2 <;> simp) | assumption))) (ev_var (i := 10) rfl (.int _)) cm_lt)))))
      · exact (ev_var (i := 9) rfl (.int _)))) (ok := blkOk_by (N := N32) (sc := defScope s32) (by decide +kernel)) (fun v_behind F_ e66 h_behind => ?_)
  have hl_behind := rep_len h_behind
  replace h_script := h_script.mono e66
  replace h_sa := h_sa.mono e66
  replace h_events := h_events.mono e66
  replace h_dirty := h_dirty.mono e66
  replace h_unsafe := h_unsafe.mono e66
  replace h_deeds := h_deeds.mono e66
  replace h_names := h_names.mono e66
  replace h_others := h_others.mono e66
  replace h_late := h_late.mono e66
  replace h_later := h_later.mono e66
  replace h_ahead := h_ahead.mono e66
  change BlkS _ _ [some v_script, some (.ref dl), some v_events, some v_dirty, some v_unsafe, some v_deeds, none, some v_names, some v_others, none, none, none, some v_late, none, some v_later, some v_ahead, some v_behind, none, none, none, none, none, none, none, none, none] _ _ _
  have hl_behind := rep_len h_behind
  generalize hd_behind : ((((m_reads_of (deeds))).filter fun x57 => ((!((x57).2.2).isNone) && (decide ((((x57).2.2).getD 0) < (x57).2.1)))).map fun x57 => (x57).1) = behind at h_behind hl_behind
  refine bl_never (q := ((!decide ((m_first_unsafe (late)) = (if (!decide (ahead = ([] : List Int))) = true then (some (ixI 0 ahead (0 : Int))) else none))) || ((!decide ((m_first_unsafe (later)) = (if (!decide (behind = ([] : List Int))) = true then (some (ixI 0 behind (0 : Int))) else none))) || (!decide ((m_first_dirty (late)) = (m_first_dirty (deeds))))))) (et_w (ew_or (et_cm (ev_call C_first_unsafe (hr.mono (by decide)) (ea_cons (ev_var (i := 12) rfl h_late) ea_nil) (⟨false, (late), (by first | assumption | exact hp_.1 | omega), rfl, rfl⟩)) (ev_if (f := (eO D.int)) (x := (some (ixI 0 ahead (0 : Int)))) (y := none) (et_cm (ev_var (i := 15) rfl h_ahead) (ev_lstR ([] : List Int) (ea_nilR (f := D.int)) (by simp [rg_len, enumT_len]; try omega)) (cm_ne (f := (eR false D.int)) (x := ahead) (y := ([] : List Int)) hr (Lw.row lw_int))) (fun hi67 => (ev_is (d1 := (eO D.int) (some (ixI 0 ahead (0 : Int)))) (ev_ix (ev_var (i := 15) rfl h_ahead) ev_int (ixI_at (d := 0) (by exact ix0_of (by assumption)))) rfl)) (fun hi68 => (ev_is (d1 := (eO D.int) none) ev_non rfl))) (cm_ne (f := (eO D.int)) (x := (m_first_unsafe (late))) (y := (if (!decide (ahead = ([] : List Int))) = true then (some (ixI 0 ahead (0 : Int))) else none)) hr (Lw.opt lw_int (fun _ => rfl) (fun _ => rfl)))) (fun hb69 => (ew_or (et_cm (ev_call C_first_unsafe (hr.mono (by decide)) (ea_cons (ev_var (i := 14) rfl h_later) ea_nil) (⟨false, (later), (by first | assumption | exact hp_.1 | omega), rfl, rfl⟩)) (ev_if (f := (eO D.int)) (x := (some (ixI 0 behind (0 : Int)))) (y := none) (et_cm (ev_var (i := 16) rfl h_behind) (ev_lstR ([] : List Int) (ea_nilR (f := D.int)) (by simp [rg_len, enumT_len]; try omega)) (cm_ne (f := (eR false D.int)) (x := behind) (y := ([] : List Int)) hr (Lw.row lw_int))) (fun hi70 => (ev_is (d1 := (eO D.int) (some (ixI 0 behind (0 : Int)))) (ev_ix (ev_var (i := 16) rfl h_behind) ev_int (ixI_at (d := 0) (by exact ix0_of (by assumption)))) rfl)) (fun hi71 => (ev_is (d1 := (eO D.int) none) ev_non rfl))) (cm_ne (f := (eO D.int)) (x := (m_first_unsafe (later))) (y := (if (!decide (behind = ([] : List Int))) = true then (some (ixI 0 behind (0 : Int))) else none)) hr (Lw.opt lw_int (fun _ => rfl) (fun _ => rfl)))) (fun hb72 => (ew_or1 (et_cm (ev_call C_first_dirty (hr.mono (by decide)) (ea_cons (ev_var (i := 12) rfl h_late) ea_nil) (⟨false, (late), (by first | assumption | exact hp_.1 | omega), rfl, rfl⟩)) (ev_call C_first_dirty (hr.mono (by decide)) (ea_cons (ev_var (i := 5) rfl h_deeds) ea_nil) (⟨false, (deeds), (by first | assumption | exact hp_.1 | omega), rfl, rfl⟩)) (cm_ne (f := (eO D.int)) (x := (m_first_dirty (late))) (y := (m_first_dirty (deeds))) hr (Lw.opt lw_int (fun _ => rfl) (fun _ => rfl)))))))))) (by exact nv3 hD hd_names hd_late hd_later hd_ahead hd_behind) ?_
  change BlkS _ _ [some v_script, some (.ref dl), some v_events, some v_dirty, some v_unsafe, some v_deeds, none, some v_names, some v_others, none, none, none, some v_late, none, some v_later, some v_ahead, some v_behind, none, none, none, none, none, none, none, none, none] _ _ _
  refine bl_asg (i := 17) (ev_lstR ([] : List Ev) (ea_nilR (f := eEv)) (by simp [rg_len, enumT_len]; try omega)) (fun v_serial F_ e74 h_serial => ?_)
  have hl_serial := rep_len h_serial
  replace h_script := h_script.mono e74
  replace h_sa := h_sa.mono e74
  replace h_events := h_events.mono e74
  replace h_dirty := h_dirty.mono e74
  replace h_unsafe := h_unsafe.mono e74
  replace h_deeds := h_deeds.mono e74
  replace h_names := h_names.mono e74
  replace h_others := h_others.mono e74
  replace h_late := h_late.mono e74
  replace h_later := h_later.mono e74
  replace h_ahead := h_ahead.mono e74
  replace h_behind := h_behind.mono e74
  change BlkS _ _ [some v_script, some (.ref dl), some v_events, some v_dirty, some v_unsafe, some v_deeds, none, some v_names, some v_others, none, none, none, some v_late, none, some v_later, some v_ahead, some v_behind, some v_serial, none, none, none, none, none, none, none, none] _ _ _
  refine bl_forK (xs := names) (f := D.int) (ei_row (ev_var (i := 7) rfl h_names)) (fun (s75 : (List Ev)) (x76 : Int) => (((s75 ++ (((deeds).filter fun x85 => (decide ((x85).2.1 = x76))).map fun x85 => x85)) ++ (((("answer" : Str), x76, none) : Ev) :: ([] : List Ev))))) (([] : List Ev)) (fun i_ (s_ : (List Ev)) σ_ F_ W_ => ∃ (o_name : Option V) (v_serial : V), σ_ = [some v_script, some (.ref dl), some v_events, some v_dirty, some v_unsafe, some v_deeds, none, some v_names, some v_others, none, none, none, some v_late, o_name, some v_later, some v_ahead, some v_behind, some v_serial, none, none, none, none, none, none, none, none] ∧ Rep F_ v_serial ((eR false eEv) s_) ∧ (s_.length ≤ 100 * i_) ∧ W_ = (WK W' dl sa k1)) (fun F_ e_ => ?_) (fun i80 x76 hi81 hx78 s75 σ_ F_ W_ e_ J_ v_ F2_ e2_ r79 => ?_) (fun σ_ F_ W_ e_ J_ => ?_)
  · replace h_script := h_script.mono e_
    replace h_sa := h_sa.mono e_
    replace h_events := h_events.mono e_
    replace h_dirty := h_dirty.mono e_
    replace h_unsafe := h_unsafe.mono e_
    replace h_deeds := h_deeds.mono e_
    replace h_names := h_names.mono e_
    replace h_others := h_others.mono e_
    replace h_late := h_late.mono e_
    replace h_later := h_later.mono e_
    replace h_ahead := h_ahead.mono e_
    replace h_behind := h_behind.mono e_
    replace h_serial := h_serial.mono e_
    exact ⟨_, _, rfl, h_serial, (by exact Nat.zero_le _), rfl⟩
  · replace h_script := h_script.mono e_
    replace h_sa := h_sa.mono e_
    replace h_events := h_events.mono e_
    replace h_dirty := h_dirty.mono e_
    replace h_unsafe := h_unsafe.mono e_
    replace h_deeds := h_deeds.mono e_
    replace h_names := h_names.mono e_
    replace h_others := h_others.mono e_
    replace h_late := h_late.mono e_
    replace h_later := h_later.mono e_
    replace h_ahead := h_ahead.mono e_
    replace h_behind := h_behind.mono e_
    replace h_serial := h_serial.mono e_
    obtain ⟨o_name, v_serial, rfl, h_serial, inv77, rfl⟩ := J_
    replace h_script := h_script.mono e2_
    replace h_sa := h_sa.mono e2_
    replace h_events := h_events.mono e2_
    replace h_dirty := h_dirty.mono e2_
    replace h_unsafe := h_unsafe.mono e2_
    replace h_deeds := h_deeds.mono e2_
    replace h_names := h_names.mono e2_
    replace h_others := h_others.mono e2_
    replace h_late := h_late.mono e2_
    replace h_later := h_later.mono e2_
    replace h_ahead := h_ahead.mono e2_
    replace h_behind := h_behind.mono e2_
    replace h_serial := h_serial.mono e2_
    cases r79
    refine tg_name (i := 13) ?_
    change BlkS _ _ [some v_script, some (.ref dl), some v_events, some v_dirty, some v_unsafe, some v_deeds, none, some v_names, some v_others, none, none, none, some v_late, some (.int x76), some v_later, some v_ahead, some v_behind, some v_serial, none, none, none, none, none, none, none, none] _ _ _
    refine bl_asg (i := 17) (ev_catR (ev_catR (ev_var (i := 17) rfl h_serial) (ev_ofLc (lc_F (own := [("deed", 18)]) (f := eEv) (g := eEv) (fun x85 => (decide ((x85).2.1 = x76))) (fun x85 => x85) (ei_row (ev_var (i := 5) rfl h_deeds)) (by first | exact rep_len h_deeds | assumption | omega | (simp only [List.length_map, enumT_len, rg_len]; omega) | (simp; done) | (simp; omega)) (fun x85 hx86 v_ F1_ e_ r87 => by
      replace h_script := h_script.mono e_
      replace h_sa := h_sa.mono e_
      replace h_events := h_events.mono e_
      replace h_dirty := h_dirty.mono e_
      replace h_unsafe := h_unsafe.mono e_
      replace h_deeds := h_deeds.mono e_
      replace h_names := h_names.mono e_
      replace h_others := h_others.mono e_
      replace h_late := h_late.mono e_
      replace h_later := h_later.mono e_
      replace h_ahead := h_ahead.mono e_
      replace h_behind := h_behind.mono e_
      replace h_serial := h_serial.mono e_
      intro s_ H0_ C_ cl_ fp_
      refine tg_name (i := 18) ?_
      refine ⟨((wipe_set (by decide)).trans (wipe_wipe)), fun s_ H0_ C_ cl_ fp_ => ?_, fun ht_ s_ H0_ C_ cl_ fp_ => ?_⟩
      · exact ets_one (et_cm (ev_e1 (ev_var (i := 18) rfl r87) ev_int) (ev_var (i := 13) rfl (.int _)) (cm_eq (f := D.int) (x := (x85).2.1) (y := x76) hr lw_int))
      · exact (ev_var (i := 18) rfl r87))) (ok := blkOk_by (N := N32) (sc := defScope s32) (by decide +kernel))) (by have a1 := (List.getElem?_eq_some_iff.mp hi81).1; have a2 := List.length_filter_le (fun x85 : Ev => decide (x85.2.1 = x76)) deeds; rw [List.length_map]; omega)) (ev_lstR (((("answer" : Str), x76, none) : Ev) :: ([] : List Ev)) (ea_consR (f := eEv) (x := ((("answer" : Str), x76, none) : Ev)) (ev_e2t ev_str (ev_var (i := 13) rfl (.int _))) (ea_nilR (f := eEv))) (by simp [rg_len, enumT_len]; try omega)) (by have a1 := (List.getElem?_eq_some_iff.mp hi81).1; have a2 := List.length_filter_le (fun x85 : Ev => decide (x85.2.1 = x76)) deeds; simp only [List.length_append, List.length_map, List.length_cons, List.length_nil]; omega)) (fun v_serial F_ e88 h_serial => ?_)
    have hl_serial := rep_len h_serial
    replace h_script := h_script.mono e88
    replace h_sa := h_sa.mono e88
    replace h_events := h_events.mono e88
    replace h_dirty := h_dirty.mono e88
    replace h_unsafe := h_unsafe.mono e88
    replace h_deeds := h_deeds.mono e88
    replace h_names := h_names.mono e88
    replace h_others := h_others.mono e88
    replace h_late := h_late.mono e88
    replace h_later := h_later.mono e88
    replace h_ahead := h_ahead.mono e88
    replace h_behind := h_behind.mono e88
    exact bl_nil ⟨_, _, rfl, h_serial, (by have a1 := (List.getElem?_eq_some_iff.mp hi81).1; have a2 := List.length_filter_le (fun x85 : Ev => decide (x85.2.1 = x76)) deeds; simp only [List.length_append, List.length_map, List.length_cons, List.length_nil]; omega), rfl⟩
  · replace h_script := h_script.mono e_
    replace h_sa := h_sa.mono e_
    replace h_events := h_events.mono e_
    replace h_dirty := h_dirty.mono e_
    replace h_unsafe := h_unsafe.mono e_
    replace h_deeds := h_deeds.mono e_
    replace h_names := h_names.mono e_
    replace h_others := h_others.mono e_
    replace h_late := h_late.mono e_
    replace h_later := h_later.mono e_
    replace h_ahead := h_ahead.mono e_
    replace h_behind := h_behind.mono e_
    replace h_serial := h_serial.mono e_
    obtain ⟨o_name, v_serial, rfl, h_serial, inv77, rfl⟩ := J_
    change BlkS _ _ [some v_script, some (.ref dl), some v_events, some v_dirty, some v_unsafe, some v_deeds, none, some v_names, some v_others, none, none, none, some v_late, o_name, some v_later, some v_ahead, some v_behind, some v_serial, none, none, none, none, none, none, none, none] _ _ _
    have hl_serial := rep_len h_serial
    generalize hd_serial : ((names).foldl (fun (s75 : (List Ev)) (x76 : Int) => (((s75 ++ (((deeds).filter fun x85 => (decide ((x85).2.1 = x76))).map fun x85 => x85)) ++ (((("answer" : Str), x76, none) : Ev) :: ([] : List Ev))))) (([] : List Ev))) = serial at h_serial hl_serial
    have hJ := ser_jok hD hd_names hd_serial
    have hOs := hJ.1
    refine bl_never (q := ((!((m_first_dirty (serial))).isNone) || ((!((m_first_unsafe (serial))).isNone) || (!(m_InTurn_eq (m_standing serial) (names)))))) (et_w (ew_or (et_cm (ev_call C_first_dirty (hr.mono (by decide)) (ea_cons (ev_var (i := 17) rfl h_serial) ea_nil) (⟨false, (serial), (by first | assumption | exact hp_.1 | omega), rfl, rfl⟩)) ev_non (cm_isnotO (f := D.int) (x := (m_first_dirty (serial))) (fun _ => rfl))) (fun hb89 => (ew_or (et_cm (ev_call C_first_unsafe (hr.mono (by decide)) (ea_cons (ev_var (i := 17) rfl h_serial) ea_nil) (⟨false, (serial), (by first | assumption | exact hp_.1 | omega), rfl, rfl⟩)) ev_non (cm_isnotO (f := D.int) (x := (m_first_unsafe (serial))) (fun _ => rfl))) (fun hb90 => (ew_or1 (et_cm (ev_is (d1 := eI CI (m_standing serial)) (ev_call C_judge_schedule (hr.mono (by decide)) (ea_cons (ev_var (i := 17) rfl h_serial) ea_nil) ⟨_, serial, (by exact hJ), rfl, rfl⟩) rfl) (ev_is (d1 := eI CI (names)) (ev_make InI (hr.mono (by decide)) (ea_cons (ev_var (i := 7) rfl h_names) ea_nil) ⟨_, names, rfl, rfl⟩) rfl) (cm_neO Y.c Me (hr.mono (by decide)) (fun _ _ => ⟨⟨(m_standing serial), (names), rfl, rfl⟩, rfl⟩) Y.nfn)))))))) (by exact nv4 hD hd_names hd_serial) ?_
    change BlkS _ _ [some v_script, some (.ref dl), some v_events, some v_dirty, some v_unsafe, some v_deeds, none, some v_names, some v_others, none, none, none, some v_late, o_name, some v_later, some v_ahead, some v_behind, some v_serial, none, none, none, none, none, none, none, none] _ _ _
    refine bl_forK (xs := (rg 0 (((events).length : Int) + (1 : Int)))) (f := D.int) (ei_range1 T.range (ea_cons (ev_add (ev_blt T.len cl_lenR (ea_cons (ev_var (i := 2) rfl h_events) ea_nil) rfl) ev_int) ea_nil) (by omega) (by omega)) (fun (s92 : Unit) (x93 : Int) => ()) () (fun i_ (s_ : Unit) σ_ F_ W_ => ∃ (o_at : Option V) (o_early : Option V), σ_ = [some v_script, some (.ref dl), some v_events, some v_dirty, some v_unsafe, some v_deeds, none, some v_names, some v_others, o_at, none, none, some v_late, o_name, some v_later, some v_ahead, some v_behind, some v_serial, none, o_early, none, none, none, none, none, none] ∧ W_ = (WK W' dl sa k1)) (fun F_ e_ => ?_) (fun i97 x93 hi98 hx95 s92 σ_ F_ W_ e_ J_ v_ F2_ e2_ r96 => ?_) (fun σ_ F_ W_ e_ J_ => ?_)
    · replace h_script := h_script.mono e_
      replace h_sa := h_sa.mono e_
      replace h_events := h_events.mono e_
      replace h_dirty := h_dirty.mono e_
      replace h_unsafe := h_unsafe.mono e_
      replace h_deeds := h_deeds.mono e_
      replace h_names := h_names.mono e_
      replace h_others := h_others.mono e_
      replace h_late := h_late.mono e_
      replace h_later := h_later.mono e_
      replace h_ahead := h_ahead.mono e_
      replace h_behind := h_behind.mono e_
      replace h_serial := h_serial.mono e_
      exact ⟨_, _, rfl, rfl⟩
    · replace h_script := h_script.mono e_
      replace h_sa := h_sa.mono e_
      replace h_events := h_events.mono e_
      replace h_dirty := h_dirty.mono e_
      replace h_unsafe := h_unsafe.mono e_
      replace h_deeds := h_deeds.mono e_
      replace h_names := h_names.mono e_
      replace h_others := h_others.mono e_
      replace h_late := h_late.mono e_
      replace h_later := h_later.mono e_
      replace h_ahead := h_ahead.mono e_
      replace h_behind := h_behind.mono e_
      replace h_serial := h_serial.mono e_
      obtain ⟨o_at, o_early, rfl, rfl⟩ := J_
      replace h_script := h_script.mono e2_
      replace h_sa := h_sa.mono e2_
      replace h_events := h_events.mono e2_
      replace h_dirty := h_dirty.mono e2_
      replace h_unsafe := h_unsafe.mono e2_
      replace h_deeds := h_deeds.mono e2_
      replace h_names := h_names.mono e2_
      replace h_others := h_others.mono e2_
      replace h_late := h_late.mono e2_
      replace h_later := h_later.mono e2_
      replace h_ahead := h_ahead.mono e2_
      replace h_behind := h_behind.mono e2_
      replace h_serial := h_serial.mono e2_
      have hx95m := rg_mem.mp hx95
      cases r96
      refine tg_name (i := 9) ?_
      change BlkS _ _ [some v_script, some (.ref dl), some v_events, some v_dirty, some v_unsafe, some v_deeds, none, some v_names, some v_others, some (.int x93), none, none, some v_late, o_name, some v_later, some v_ahead, some v_behind, some v_serial, none, o_early, none, none, none, none, none, none] _ _ _
      refine bl_asg (i := 19) (ev_sl (l := none) (u := (some x93)) (ev_var (i := 2) rfl h_events) eo_none (eo_some (ev_var (i := 9) rfl (.int _)))) (fun v_early F_ e99 h_early => ?_)
      have hl_early := rep_len h_early
      replace h_script := h_script.mono e99
      replace h_sa := h_sa.mono e99
      replace h_events := h_events.mono e99
      replace h_dirty := h_dirty.mono e99
      replace h_unsafe := h_unsafe.mono e99
      replace h_deeds := h_deeds.mono e99
      replace h_names := h_names.mono e99
      replace h_others := h_others.mono e99
      replace h_late := h_late.mono e99
      replace h_later := h_later.mono e99
      replace h_ahead := h_ahead.mono e99
      replace h_behind := h_behind.mono e99
      replace h_serial := h_serial.mono e99
      change BlkS _ _ [some v_script, some (.ref dl), some v_events, some v_dirty, some v_unsafe, some v_deeds, none, some v_names, some v_others, some (.int x93), none, none, some v_late, o_name, some v_later, some v_ahead, some v_behind, some v_serial, none, some v_early, none, none, none, none, none, none] _ _ _
      have hOy : Ok (cutL events none (some x93)) := ok_cut hK
      refine bl_never (q := (!decide ((m_reads_of (cutL events none (some x93))) = ((((m_reads_of (events))).filter fun x100 => (decide ((x100).1 < x93))).map fun x100 => x100)))) (et_cm (ev_call C_reads_of (hr.mono (by decide)) (ea_cons (ev_var (i := 19) rfl h_early) ea_nil) (⟨false, (cutL events none (some x93)), (by first | assumption | exact hp_.1 | omega), rfl, rfl⟩)) (ev_ofLc (lc_F (own := [("row", 20)]) (f := (eP3 D.int D.int (eO D.int))) (g := (eP3 D.int D.int (eO D.int))) (fun x100 => (decide ((x100).1 < x93))) (fun x100 => x100) (ei_row (ev_call C_reads_of (hr.mono (by decide)) (ea_cons (ev_var (i := 2) rfl h_events) ea_nil) (⟨false, (events), (by first | assumption | exact hp_.1 | omega), rfl, rfl⟩))) (by first | exact reads_le (by assumption) | assumption | omega | (simp only [List.length_map, enumT_len, rg_len]; omega) | (simp; done) | (simp; omega)) (fun x100 hx101 v_ F1_ e_ r102 => by
      replace h_script := h_script.mono e_
      replace h_sa := h_sa.mono e_
      replace h_events := h_events.mono e_
      replace h_dirty := h_dirty.mono e_
      replace h_unsafe := h_unsafe.mono e_
      replace h_deeds := h_deeds.mono e_
      replace h_names := h_names.mono e_
      replace h_others := h_others.mono e_
      replace h_late := h_late.mono e_
      replace h_later := h_later.mono e_
      replace h_ahead := h_ahead.mono e_
      replace h_behind := h_behind.mono e_
      replace h_serial := h_serial.mono e_
      replace h_early := h_early.mono e_
      intro s_ H0_ C_ cl_ fp_
      refine tg_name (i := 20) ?_
      refine ⟨((wipe_set (by decide)).trans (wipe_wipe)), fun s_ H0_ C_ cl_ fp_ => ?_, fun ht_ s_ H0_ C_ cl_ fp_ => ?_⟩
      · exact ets_one (et_cm (ev_ixD (xs := _) (ev_var (i := 20) rfl r102) ev_int rfl) (ev_var (i := 9) rfl (.int _)) cm_lt)
      · exact (ev_var (i := 20) rfl r102))) (ok := blkOk_by (N := N32) (sc := defScope s32) (by decide +kernel))) (cm_ne (f := (eR false (eP3 D.int D.int (eO D.int)))) (x := (m_reads_of (cutL events none (some x93)))) (y := ((((m_reads_of (events))).filter fun x100 => (decide ((x100).1 < x93))).map fun x100 => x100)) hr (Lw.row (Lw.tripM lw_int lw_int (Lw.opt lw_int (fun _ => rfl) (fun _ => rfl)))))) (by exact nv5 hK hx95m) ?_
      change BlkS _ _ [some v_script, some (.ref dl), some v_events, some v_dirty, some v_unsafe, some v_deeds, none, some v_names, some v_others, some (.int x93), none, none, some v_late, o_name, some v_later, some v_ahead, some v_behind, some v_serial, none, some v_early, none, none, none, none, none, none] _ _ _
      refine bl_never (q := (!decide ((m_first_dirty (cutL events none (some x93))) = (if ((!((m_first_dirty (events))).isNone) && (decide ((((m_first_dirty (events))).getD 0) < x93))) = true then (m_first_dirty (events)) else none)))) (et_cm (ev_call C_first_dirty (hr.mono (by decide)) (ea_cons (ev_var (i := 19) rfl h_early) ea_nil) (⟨false, (cutL events none (some x93)), (by first | assumption | exact hp_.1 | omega), rfl, rfl⟩)) (ev_if (f := (eO D.int)) (x := (m_first_dirty (events))) (y := none) (et_w (ew_and (et_cm (ev_var (i := 3) rfl h_dirty) ev_non (cm_isnotO (f := D.int) (x := (m_first_dirty (events))) (fun _ => rfl))) (fun hb104 => (ew_and1 (et_cm (ev_is (d1 := D.int (((m_first_dirty (events))).getD 0)) (ev_var (i := 3) rfl h_dirty) (eO_get (by first | (have q_ := hb104; revert q_; cases hO_ : (m_first_dirty (events)) <;> simp) | assumption))) (ev_var (i := 9) rfl (.int _)) cm_lt))))) (fun hi105 => (ev_var (i := 3) rfl h_dirty)) (fun hi106 => (ev_is (d1 := (eO D.int) none) ev_non rfl))) (cm_ne (f := (eO D.int)) (x := (m_first_dirty (cutL events none (some x93)))) (y := (if ((!((m_first_dirty (events))).isNone) && (decide ((((m_first_dirty (events))).getD 0) < x93))) = true then (m_first_dirty (events)) else none)) hr (Lw.opt lw_int (fun _ => rfl) (fun _ => rfl)))) (by exact nv6 hK hx95m) ?_
      exact bl_nil ⟨_, _, rfl, rfl⟩
    · replace h_script := h_script.mono e_
      replace h_sa := h_sa.mono e_
      replace h_events := h_events.mono e_
      replace h_dirty := h_dirty.mono e_
      replace h_unsafe := h_unsafe.mono e_
      replace h_deeds := h_deeds.mono e_
      replace h_names := h_names.mono e_
      replace h_others := h_others.mono e_
      replace h_late := h_late.mono e_
      replace h_later := h_later.mono e_
      replace h_ahead := h_ahead.mono e_
      replace h_behind := h_behind.mono e_
      replace h_serial := h_serial.mono e_
      obtain ⟨o_at, o_early, rfl, rfl⟩ := J_
      change BlkS _ _ [some v_script, some (.ref dl), some v_events, some v_dirty, some v_unsafe, some v_deeds, none, some v_names, some v_others, o_at, none, none, some v_late, o_name, some v_later, some v_ahead, some v_behind, some v_serial, none, o_early, none, none, none, none, none, none] _ _ _
      refine bl_forK (xs := names) (f := D.int) (ei_row (ev_var (i := 7) rfl h_names)) (fun (s108 : Unit) (x109 : Int) => (if (!((((events).map fun x115 => ((decide ((((x115).1, (x115).2.1, none) : Ev) = ((("answer" : Str), x109, none) : Ev))) || (decide ((((x115).1, (x115).2.1, none) : Ev) = ((("stop" : Str), x109, none) : Ev)))))).any id)) = true then () else ())) () (fun i_ (s_ : Unit) σ_ F_ W_ => ∃ (o_name : Option V) (o_more : Option V) (o_ended : Option V) (o_rows : Option V), σ_ = [some v_script, some (.ref dl), some v_events, some v_dirty, some v_unsafe, some v_deeds, none, some v_names, some v_others, o_at, none, none, some v_late, o_name, some v_later, some v_ahead, some v_behind, some v_serial, none, o_early, none, o_more, o_ended, o_rows, none, none] ∧ W_ = (WK W' dl sa k1)) (fun F_ e_ => ?_) (fun i113 x109 hi114 hx111 s108 σ_ F_ W_ e_ J_ v_ F2_ e2_ r112 => ?_) (fun σ_ F_ W_ e_ J_ => ?_)
      · replace h_script := h_script.mono e_
        replace h_sa := h_sa.mono e_
        replace h_events := h_events.mono e_
        replace h_dirty := h_dirty.mono e_
        replace h_unsafe := h_unsafe.mono e_
        replace h_deeds := h_deeds.mono e_
        replace h_names := h_names.mono e_
        replace h_others := h_others.mono e_
        replace h_late := h_late.mono e_
        replace h_later := h_later.mono e_
        replace h_ahead := h_ahead.mono e_
        replace h_behind := h_behind.mono e_
        replace h_serial := h_serial.mono e_
        exact ⟨_, _, _, _, rfl, rfl⟩
      · replace h_script := h_script.mono e_
        replace h_sa := h_sa.mono e_
        replace h_events := h_events.mono e_
        replace h_dirty := h_dirty.mono e_
        replace h_unsafe := h_unsafe.mono e_
        replace h_deeds := h_deeds.mono e_
        replace h_names := h_names.mono e_
        replace h_others := h_others.mono e_
        replace h_late := h_late.mono e_
        replace h_later := h_later.mono e_
        replace h_ahead := h_ahead.mono e_
        replace h_behind := h_behind.mono e_
        replace h_serial := h_serial.mono e_
        obtain ⟨o_name, o_more, o_ended, o_rows, rfl, rfl⟩ := J_
        replace h_script := h_script.mono e2_
        replace h_sa := h_sa.mono e2_
        replace h_events := h_events.mono e2_
        replace h_dirty := h_dirty.mono e2_
        replace h_unsafe := h_unsafe.mono e2_
        replace h_deeds := h_deeds.mono e2_
        replace h_names := h_names.mono e2_
        replace h_others := h_others.mono e2_
        replace h_late := h_late.mono e2_
        replace h_later := h_later.mono e2_
        replace h_ahead := h_ahead.mono e2_
        replace h_behind := h_behind.mono e2_
        replace h_serial := h_serial.mono e2_
        cases r112
        refine tg_name (i := 13) ?_
        change BlkS _ _ [some v_script, some (.ref dl), some v_events, some v_dirty, some v_unsafe, some v_deeds, none, some v_names, some v_others, o_at, none, none, some v_late, some (.int x109), some v_later, some v_ahead, some v_behind, some v_serial, none, o_early, none, o_more, o_ended, o_rows, none, none] _ _ _
        refine bl_when (q := (!((((events).map fun x115 => ((decide ((((x115).1, (x115).2.1, none) : Ev) = ((("answer" : Str), x109, none) : Ev))) || (decide ((((x115).1, (x115).2.1, none) : Ev) = ((("stop" : Str), x109, none) : Ev)))))).any id))) (et_not (et_val (ev_blt T.any cl_any (ea_cons (ev_ofLc (lc_M (own := [("event", 6)]) (f := eEv) (g := D.bl) (fun x115 => ((decide ((((x115).1, (x115).2.1, none) : Ev) = ((("answer" : Str), x109, none) : Ev))) || (decide ((((x115).1, (x115).2.1, none) : Ev) = ((("stop" : Str), x109, none) : Ev))))) (ei_row (ev_var (i := 2) rfl h_events)) (by first | exact rep_len h_events | assumption | omega | (simp only [List.length_map, enumT_len, rg_len]; omega) | (simp; done) | (simp; omega)) (fun x115 hx116 v_ F1_ e_ r117 => by
      replace h_script := h_script.mono e_
      replace h_sa := h_sa.mono e_
      replace h_events := h_events.mono e_
      replace h_dirty := h_dirty.mono e_
      replace h_unsafe := h_unsafe.mono e_
      replace h_deeds := h_deeds.mono e_
      replace h_names := h_names.mono e_
      replace h_others := h_others.mono e_
      replace h_late := h_late.mono e_
      replace h_later := h_later.mono e_
      replace h_ahead := h_ahead.mono e_
      replace h_behind := h_behind.mono e_
      replace h_serial := h_serial.mono e_
      intro s_ H0_ C_ cl_ fp_
      refine tg_name (i := 6) ?_
      refine ⟨((wipe_set (by decide)).trans (wipe_wipe)), fun s_ H0_ C_ cl_ fp_ => ?_, fun ht_ s_ H0_ C_ cl_ fp_ => ?_⟩
      · exact ets_nil
      · exact (ev_or (ev_cm (ev_eHd (ev_var (i := 6) rfl r117) (eo_some ev_int)) (ev_e2t ev_str (ev_var (i := 13) rfl (.int _))) (cm_eq (f := eEv) (x := (((x115).1, (x115).2.1, none) : Ev)) (y := ((("answer" : Str), x109, none) : Ev)) hr lw_ev)) (fun hb118 => (ev_bop1 (ev_cm (ev_eHd (ev_var (i := 6) rfl r117) (eo_some ev_int)) (ev_e2t ev_str (ev_var (i := 13) rfl (.int _))) (cm_eq (f := eEv) (x := (((x115).1, (x115).2.1, none) : Ev)) (y := ((("stop" : Str), x109, none) : Ev)) hr lw_ev))))))) (ok := blkOk_by (N := N32) (sc := defScope s32) (by decide +kernel))) ea_nil) rfl))) (fun hq119 => ?_) (fun hq119 => ?_)
        · change BlkS _ _ [some v_script, some (.ref dl), some v_events, some v_dirty, some v_unsafe, some v_deeds, none, some v_names, some v_others, o_at, none, none, some v_late, some (.int x109), some v_later, some v_ahead, some v_behind, some v_serial, none, o_early, none, o_more, o_ended, o_rows, none, none] _ _ _
          refine bl_asg (i := 21) (ev_catR (ev_var (i := 2) rfl h_events) (ev_lstR (((("stop" : Str), x109, none) : Ev) :: ([] : List Ev)) (ea_consR (f := eEv) (x := ((("stop" : Str), x109, none) : Ev)) (ev_e2t ev_str (ev_var (i := 13) rfl (.int _))) (ea_nilR (f := eEv))) (by simp [rg_len, enumT_len]; try omega)) (by have := hE.len; simp only [List.length_cons, List.length_nil]; omega)) (fun v_more F_ e120 h_more => ?_)
          have hl_more := rep_len h_more
          replace h_script := h_script.mono e120
          replace h_sa := h_sa.mono e120
          replace h_events := h_events.mono e120
          replace h_dirty := h_dirty.mono e120
          replace h_unsafe := h_unsafe.mono e120
          replace h_deeds := h_deeds.mono e120
          replace h_names := h_names.mono e120
          replace h_others := h_others.mono e120
          replace h_late := h_late.mono e120
          replace h_later := h_later.mono e120
          replace h_ahead := h_ahead.mono e120
          replace h_behind := h_behind.mono e120
          replace h_serial := h_serial.mono e120
          change BlkS _ _ [some v_script, some (.ref dl), some v_events, some v_dirty, some v_unsafe, some v_deeds, none, some v_names, some v_others, o_at, none, none, some v_late, some (.int x109), some v_later, some v_ahead, some v_behind, some v_serial, none, o_early, none, some v_more, o_ended, o_rows, none, none] _ _ _
          have hnw := end_new hK hq119
          have hOm := more_ok hE hnw (.inr rfl)
          have hOn := more_ok hE hnw (.inl rfl)
          refine bl_never (q := ((!decide ((m_reads_of (events ++ (((("stop" : Str), x109, none) : Ev) :: ([] : List Ev)))) = (m_reads_of (events)))) || ((!decide ((m_first_dirty (events ++ (((("stop" : Str), x109, none) : Ev) :: ([] : List Ev)))) = (m_first_dirty (events)))) || (!decide ((m_first_unsafe (events ++ (((("stop" : Str), x109, none) : Ev) :: ([] : List Ev)))) = (m_first_unsafe (events))))))) (et_w (ew_or (et_cm (ev_call C_reads_of (hr.mono (by decide)) (ea_cons (ev_var (i := 21) rfl h_more) ea_nil) (⟨false, (events ++ (((("stop" : Str), x109, none) : Ev) :: ([] : List Ev))), (by first | assumption | exact hp_.1 | omega), rfl, rfl⟩)) (ev_call C_reads_of (hr.mono (by decide)) (ea_cons (ev_var (i := 2) rfl h_events) ea_nil) (⟨false, (events), (by first | assumption | exact hp_.1 | omega), rfl, rfl⟩)) (cm_ne (f := (eR false (eP3 D.int D.int (eO D.int)))) (x := (m_reads_of (events ++ (((("stop" : Str), x109, none) : Ev) :: ([] : List Ev))))) (y := (m_reads_of (events))) hr (Lw.row (Lw.tripM lw_int lw_int (Lw.opt lw_int (fun _ => rfl) (fun _ => rfl)))))) (fun hb121 => (ew_or (et_cm (ev_call C_first_dirty (hr.mono (by decide)) (ea_cons (ev_var (i := 21) rfl h_more) ea_nil) (⟨false, (events ++ (((("stop" : Str), x109, none) : Ev) :: ([] : List Ev))), (by first | assumption | exact hp_.1 | omega), rfl, rfl⟩)) (ev_var (i := 3) rfl h_dirty) (cm_ne (f := (eO D.int)) (x := (m_first_dirty (events ++ (((("stop" : Str), x109, none) : Ev) :: ([] : List Ev))))) (y := (m_first_dirty (events))) hr (Lw.opt lw_int (fun _ => rfl) (fun _ => rfl)))) (fun hb122 => (ew_or1 (et_cm (ev_call C_first_unsafe (hr.mono (by decide)) (ea_cons (ev_var (i := 21) rfl h_more) ea_nil) (⟨false, (events ++ (((("stop" : Str), x109, none) : Ev) :: ([] : List Ev))), (by first | assumption | exact hp_.1 | omega), rfl, rfl⟩)) (ev_var (i := 4) rfl h_unsafe) (cm_ne (f := (eO D.int)) (x := (m_first_unsafe (events ++ (((("stop" : Str), x109, none) : Ev) :: ([] : List Ev))))) (y := (m_first_unsafe (events))) hr (Lw.opt lw_int (fun _ => rfl) (fun _ => rfl)))))))))) (by exact nv7 hE hnw) ?_
          change BlkS _ _ [some v_script, some (.ref dl), some v_events, some v_dirty, some v_unsafe, some v_deeds, none, some v_names, some v_others, o_at, none, none, some v_late, some (.int x109), some v_later, some v_ahead, some v_behind, some v_serial, none, o_early, none, some v_more, o_ended, o_rows, none, none] _ _ _
          refine bl_asg (i := 22) (ev_call C_first_unsafe (hr.mono (by decide)) (ea_cons (ev_catR (ev_var (i := 2) rfl h_events) (ev_lstR (((("answer" : Str), x109, none) : Ev) :: ([] : List Ev)) (ea_consR (f := eEv) (x := ((("answer" : Str), x109, none) : Ev)) (ev_e2t ev_str (ev_var (i := 13) rfl (.int _))) (ea_nilR (f := eEv))) (by simp [rg_len, enumT_len]; try omega)) (by have := hE.len; simp only [List.length_cons, List.length_nil]; omega)) ea_nil) (⟨false, (events ++ (((("answer" : Str), x109, none) : Ev) :: ([] : List Ev))), (by first | assumption | exact hp_.1 | omega), rfl, rfl⟩)) (fun v_ended F_ e124 h_ended => ?_)
          replace h_script := h_script.mono e124
          replace h_sa := h_sa.mono e124
          replace h_events := h_events.mono e124
          replace h_dirty := h_dirty.mono e124
          replace h_unsafe := h_unsafe.mono e124
          replace h_deeds := h_deeds.mono e124
          replace h_names := h_names.mono e124
          replace h_others := h_others.mono e124
          replace h_late := h_late.mono e124
          replace h_later := h_later.mono e124
          replace h_ahead := h_ahead.mono e124
          replace h_behind := h_behind.mono e124
          replace h_serial := h_serial.mono e124
          replace h_more := h_more.mono e124
          change BlkS _ _ [some v_script, some (.ref dl), some v_events, some v_dirty, some v_unsafe, some v_deeds, none, some v_names, some v_others, o_at, none, none, some v_late, some (.int x109), some v_later, some v_ahead, some v_behind, some v_serial, none, o_early, none, some v_more, some v_ended, o_rows, none, none] _ _ _
          refine bl_asgLc (i := 23) (lc_F (own := [("at", 9), ("one", 10), ("writer", 11)]) (f := (eP3 D.int D.int (eO D.int))) (g := D.int) (fun x125 => ((decide ((x125).2.1 = x109)) && ((!((x125).2.2).isNone) && ((!decide ((x125).2.2 = (some x109))) && (!((((events).map fun x136 => (decide (x136 = ((("answer" : Str), (((x125).2.2).getD 0), none) : Ev))))).any id)))))) (fun x125 => (x125).1) (ei_row (ev_call C_reads_of (hr.mono (by decide)) (ea_cons (ev_var (i := 2) rfl h_events) ea_nil) (⟨false, (events), (by first | assumption | exact hp_.1 | omega), rfl, rfl⟩))) (by first | exact reads_le (by assumption) | assumption | omega | (simp only [List.length_map, enumT_len, rg_len]; omega) | (simp; done) | (simp; omega)) (fun x125 hx126 v_ F1_ e_ r127 => by
      replace h_script := h_script.mono e_
      replace h_sa := h_sa.mono e_
      replace h_events := h_events.mono e_
      replace h_dirty := h_dirty.mono e_
      replace h_unsafe := h_unsafe.mono e_
      replace h_deeds := h_deeds.mono e_
      replace h_names := h_names.mono e_
      replace h_others := h_others.mono e_
      replace h_late := h_late.mono e_
      replace h_later := h_later.mono e_
      replace h_ahead := h_ahead.mono e_
      replace h_behind := h_behind.mono e_
      replace h_serial := h_serial.mono e_
      replace h_more := h_more.mono e_
      replace h_ended := h_ended.mono e_
      intro s_ H0_ C_ cl_ fp_
      refine tg_tup (ds := [D.int ((x125).1), D.int ((x125).2.1), (eO D.int) ((x125).2.2)]) r127 (fun vs131 rr132 => ?_)
      cases rr132 with | @cons v_at _ _ _ h_at rr132 => ?_
      cases rr132 with | @cons v_one _ _ _ h_one rr132 => ?_
      cases rr132 with | @cons v_writer _ _ _ h_writer rr132 => ?_
      cases rr132
      refine tgs_cons ?_
      cases h_at
      refine tg_name (i := 9) ?_
      refine tgs_cons ?_
      cases h_one
      refine tg_name (i := 10) ?_
      refine tgs_cons ?_
      refine tg_name (i := 11) ?_
      refine tgs_nil ?_
      refine ⟨((wipe_set (by decide)).trans ((wipe_set (by decide)).trans ((wipe_set (by decide)).trans (wipe_wipe)))), fun s_ H0_ C_ cl_ fp_ => ?_, fun ht_ s_ H0_ C_ cl_ fp_ => ?_⟩
      · exact ets_one (et_w (ew_and (et_cm (ev_var (i := 10) rfl (.int _)) (ev_var (i := 13) rfl (.int _)) (cm_eq (f := D.int) (x := (x125).2.1) (y := x109) hr lw_int)) (fun hb133 => (ew_and (et_cm (ev_var (i := 11) rfl h_writer) ev_non (cm_isnotO (f := D.int) (x := (x125).2.2) (fun _ => rfl))) (fun hb134 => (ew_and (et_cm (ev_var (i := 11) rfl h_writer) (ev_is (d1 := (eO D.int) (some x109)) (ev_var (i := 13) rfl (.int _)) rfl) (cm_ne (f := (eO D.int)) (x := (x125).2.2) (y := (some x109)) hr (Lw.opt lw_int (fun _ => rfl) (fun _ => rfl)))) (fun hb135 => (ew_and1 (et_not (et_val (ev_blt T.any cl_any (ea_cons (ev_ofLc (lc_M (own := [("event", 6)]) (f := eEv) (g := D.bl) (fun x136 => (decide (x136 = ((("answer" : Str), (((x125).2.2).getD 0), none) : Ev)))) (ei_row (ev_var (i := 2) rfl h_events)) (by first | exact rep_len h_events | assumption | omega | (simp only [List.length_map, enumT_len, rg_len]; omega) | (simp; done) | (simp; omega)) (fun x136 hx137 v_ F1_ e_ r138 => by
      replace h_script := h_script.mono e_
      replace h_sa := h_sa.mono e_
      replace h_events := h_events.mono e_
      replace h_dirty := h_dirty.mono e_
      replace h_unsafe := h_unsafe.mono e_
      replace h_deeds := h_deeds.mono e_
      replace h_names := h_names.mono e_
      replace h_others := h_others.mono e_
      replace h_late := h_late.mono e_
      replace h_later := h_later.mono e_
      replace h_ahead := h_ahead.mono e_
      replace h_behind := h_behind.mono e_
      replace h_serial := h_serial.mono e_
      replace h_more := h_more.mono e_
      replace h_ended := h_ended.mono e_
      replace h_writer := h_writer.mono e_
      intro s_ H0_ C_ cl_ fp_
      refine tg_name (i := 6) ?_
      refine ⟨((wipe_set (by decide)).trans (wipe_wipe)), fun s_ H0_ C_ cl_ fp_ => ?_, fun ht_ s_ H0_ C_ cl_ fp_ => ?_⟩
      · exact ets_nil
      · exact (ev_cm (ev_var (i := 6) rfl r138) (ev_e2t ev_str (ev_is (d1 := D.int (((x125).2.2).getD 0)) (ev_var (i := 11) rfl h_writer) (eO_get (by first | (have q_ := hb134; revert q_; cases hO_ : (x125).2.2 <;> simp) | assumption)))) (cm_eq (f := eEv) (x := x136) (y := ((("answer" : Str), (((x125).2.2).getD 0), none) : Ev)) hr lw_ev)))) (ok := by exact blkOk_by (by kernel_rfl))) ea_nil) rfl)))))))))))
      · exact (ev_var (i := 9) rfl (.int _)))) (ok := blkOk_by (N := N32) (sc := defScope s32) (by decide +kernel)) (fun v_rows F_ e139 h_rows => ?_)
          have hl_rows := rep_len h_rows
          replace h_script := h_script.mono e139
          replace h_sa := h_sa.mono e139
          replace h_events := h_events.mono e139
          replace h_dirty := h_dirty.mono e139
          replace h_unsafe := h_unsafe.mono e139
          replace h_deeds := h_deeds.mono e139
          replace h_names := h_names.mono e139
          replace h_others := h_others.mono e139
          replace h_late := h_late.mono e139
          replace h_later := h_later.mono e139
          replace h_ahead := h_ahead.mono e139
          replace h_behind := h_behind.mono e139
          replace h_serial := h_serial.mono e139
          replace h_more := h_more.mono e139
          replace h_ended := h_ended.mono e139
          change BlkS _ _ [some v_script, some (.ref dl), some v_events, some v_dirty, some v_unsafe, some v_deeds, none, some v_names, some v_others, o_at, none, none, some v_late, some (.int x109), some v_later, some v_ahead, some v_behind, some v_serial, none, o_early, none, some v_more, some v_ended, some v_rows, none, none] _ _ _
          have hl_rows := rep_len h_rows
          generalize hd_rows : ((((m_reads_of (events))).filter fun x125 => ((decide ((x125).2.1 = x109)) && ((!((x125).2.2).isNone) && ((!decide ((x125).2.2 = (some x109))) && (!((((events).map fun x136 => (decide (x136 = ((("answer" : Str), (((x125).2.2).getD 0), none) : Ev))))).any id)))))).map fun x125 => (x125).1) = rows at h_rows hl_rows
          refine bl_never (q := (((!((m_first_unsafe (events ++ (((("answer" : Str), x109, none) : Ev) :: ([] : List Ev))))).isNone) && ((!((m_first_unsafe (events))).isNone) && (decide ((((m_first_unsafe (events))).getD 0) < (((m_first_unsafe (events ++ (((("answer" : Str), x109, none) : Ev) :: ([] : List Ev))))).getD 0))))) || ((!decide (rows = ([] : List Int))) && (((m_first_unsafe (events ++ (((("answer" : Str), x109, none) : Ev) :: ([] : List Ev))))).isNone || (decide ((ixI 0 rows (0 : Int)) < (((m_first_unsafe (events ++ (((("answer" : Str), x109, none) : Ev) :: ([] : List Ev))))).getD 0))))))) (et_w (ew_or (et_w (ew_and (et_cm (ev_var (i := 22) rfl h_ended) ev_non (cm_isnotO (f := D.int) (x := (m_first_unsafe (events ++ (((("answer" : Str), x109, none) : Ev) :: ([] : List Ev))))) (fun _ => rfl))) (fun hb140 => (ew_and (et_cm (ev_var (i := 4) rfl h_unsafe) ev_non (cm_isnotO (f := D.int) (x := (m_first_unsafe (events))) (fun _ => rfl))) (fun hb141 => (ew_and1 (et_cm (ev_is (d1 := D.int (((m_first_unsafe (events ++ (((("answer" : Str), x109, none) : Ev) :: ([] : List Ev))))).getD 0)) (ev_var (i := 22) rfl h_ended) (eO_get (by first | (have q_ := hb140; revert q_; cases hO_ : (m_first_unsafe (events ++ (((("answer" : Str), x109, none) : Ev) :: ([] : List Ev)))) <;> simp) | assumption))) (ev_is (d1 := D.int (((m_first_unsafe (events))).getD 0)) (ev_var (i := 4) rfl h_unsafe) (eO_get (by first | (have q_ := hb141; revert q_; cases hO_ : (m_first_unsafe (events)) <;> simp) | assumption))) cm_gt))))))) (fun hb142 => (ew_or1 (et_w (ew_and (et_cm (ev_var (i := 23) rfl h_rows) (ev_lstR ([] : List Int) (ea_nilR (f := D.int)) (by simp [rg_len, enumT_len]; try omega)) (cm_ne (f := (eR false D.int)) (x := rows) (y := ([] : List Int)) hr (Lw.row lw_int))) (fun hb143 => (ew_and1 (et_w (ew_or (et_cm (ev_var (i := 22) rfl h_ended) ev_non (cm_isO (f := D.int) (x := (m_first_unsafe (events ++ (((("answer" : Str), x109, none) : Ev) :: ([] : List Ev))))) (fun _ => rfl))) (fun hb144 => (ew_or1 (et_cm (ev_is (d1 := D.int (((m_first_unsafe (events ++ (((("answer" : Str), x109, none) : Ev) :: ([] : List Ev))))).getD 0)) (ev_var (i := 22) rfl h_ended) (eO_get (by first | (have q_ := hb144; revert q_; cases hO_ : (m_first_unsafe (events ++ (((("answer" : Str), x109, none) : Ev) :: ([] : List Ev)))) <;> simp) | (have q_ := hb142; revert q_; cases hO_ : (m_first_unsafe (events ++ (((("answer" : Str), x109, none) : Ev) :: ([] : List Ev)))) <;> simp) | assumption))) (ev_ix (ev_var (i := 23) rfl h_rows) ev_int (ixI_at (d := 0) (by exact ix0_of (by assumption)))) cm_gt))))))))))))) (by exact nv8 hE hnw hd_rows) ?_
          refine bl_goes ?_
          exact bl_nil ⟨_, _, _, _, rfl, rfl⟩
        · exact bl_nil ⟨_, _, _, _, rfl, rfl⟩
      · replace h_script := h_script.mono e_
        replace h_sa := h_sa.mono e_
        replace h_events := h_events.mono e_
        replace h_dirty := h_dirty.mono e_
        replace h_unsafe := h_unsafe.mono e_
        replace h_deeds := h_deeds.mono e_
        replace h_names := h_names.mono e_
        replace h_others := h_others.mono e_
        replace h_late := h_late.mono e_
        replace h_later := h_later.mono e_
        replace h_ahead := h_ahead.mono e_
        replace h_behind := h_behind.mono e_
        replace h_serial := h_serial.mono e_
        obtain ⟨o_name, o_more, o_ended, o_rows, rfl, rfl⟩ := J_
        change BlkS _ _ [some v_script, some (.ref dl), some v_events, some v_dirty, some v_unsafe, some v_deeds, none, some v_names, some v_others, o_at, none, none, some v_late, o_name, some v_later, some v_ahead, some v_behind, some v_serial, none, o_early, none, o_more, o_ended, o_rows, none, none] _ _ _
        refine bl_asgLc (i := 24) (lc_F (own := [("event", 6)]) (f := eEv) (g := eEv) (fun x146 => (decide ((x146).2.1 = (0 : Int)))) (fun x146 => x146) (ei_row (ev_var (i := 2) rfl h_events)) (by first | exact rep_len h_events | assumption | omega | (simp only [List.length_map, enumT_len, rg_len]; omega) | (simp; done) | (simp; omega)) (fun x146 hx147 v_ F1_ e_ r148 => by
      replace h_script := h_script.mono e_
      replace h_sa := h_sa.mono e_
      replace h_events := h_events.mono e_
      replace h_dirty := h_dirty.mono e_
      replace h_unsafe := h_unsafe.mono e_
      replace h_deeds := h_deeds.mono e_
      replace h_names := h_names.mono e_
      replace h_others := h_others.mono e_
      replace h_late := h_late.mono e_
      replace h_later := h_later.mono e_
      replace h_ahead := h_ahead.mono e_
      replace h_behind := h_behind.mono e_
      replace h_serial := h_serial.mono e_
      intro s_ H0_ C_ cl_ fp_
      refine tg_name (i := 6) ?_
      refine ⟨((wipe_set (by decide)).trans (wipe_wipe)), fun s_ H0_ C_ cl_ fp_ => ?_, fun ht_ s_ H0_ C_ cl_ fp_ => ?_⟩
      · exact ets_one (et_cm (ev_e1 (ev_var (i := 6) rfl r148) ev_int) ev_int (cm_eq (f := D.int) (x := (x146).2.1) (y := (0 : Int)) hr lw_int))
      · exact (ev_var (i := 6) rfl r148))) (ok := blkOk_by (N := N32) (sc := defScope s32) (by decide +kernel)) (fun v_alone F_ e149 h_alone => ?_)
        have hl_alone := rep_len h_alone
        replace h_script := h_script.mono e149
        replace h_sa := h_sa.mono e149
        replace h_events := h_events.mono e149
        replace h_dirty := h_dirty.mono e149
        replace h_unsafe := h_unsafe.mono e149
        replace h_deeds := h_deeds.mono e149
        replace h_names := h_names.mono e149
        replace h_others := h_others.mono e149
        replace h_late := h_late.mono e149
        replace h_later := h_later.mono e149
        replace h_ahead := h_ahead.mono e149
        replace h_behind := h_behind.mono e149
        replace h_serial := h_serial.mono e149
        change BlkS _ _ [some v_script, some (.ref dl), some v_events, some v_dirty, some v_unsafe, some v_deeds, none, some v_names, some v_others, o_at, none, none, some v_late, o_name, some v_later, some v_ahead, some v_behind, some v_serial, none, o_early, none, o_more, o_ended, o_rows, some v_alone, none] _ _ _
        have hl_alone := rep_len h_alone
        generalize hd_alone : (((events).filter fun x146 => (decide ((x146).2.1 = (0 : Int)))).map fun x146 => x146) = alone at h_alone hl_alone
        have hAl := alone_ok hE hd_alone
        have hOa := hAl.1
        refine bl_never (q := ((!((m_first_dirty (alone))).isNone) || ((!((m_first_unsafe (alone))).isNone) || (((((m_reads_of (alone))).map fun x152 => (!(memB (x152).2.2 (none :: ((some (0 : Int)) :: ([] : List (Option Int)))))))).any id)))) (et_w (ew_or (et_cm (ev_call C_first_dirty (hr.mono (by decide)) (ea_cons (ev_var (i := 24) rfl h_alone) ea_nil) (⟨false, (alone), (by first | assumption | exact hp_.1 | omega), rfl, rfl⟩)) ev_non (cm_isnotO (f := D.int) (x := (m_first_dirty (alone))) (fun _ => rfl))) (fun hb150 => (ew_or (et_cm (ev_call C_first_unsafe (hr.mono (by decide)) (ea_cons (ev_var (i := 24) rfl h_alone) ea_nil) (⟨false, (alone), (by first | assumption | exact hp_.1 | omega), rfl, rfl⟩)) ev_non (cm_isnotO (f := D.int) (x := (m_first_unsafe (alone))) (fun _ => rfl))) (fun hb151 => (ew_or1 (et_val (ev_blt T.any cl_any (ea_cons (ev_ofLc (lc_M (own := [("at", 9), ("one", 10), ("writer", 11)]) (f := (eP3 D.int D.int (eO D.int))) (g := D.bl) (fun x152 => (!(memB (x152).2.2 (none :: ((some (0 : Int)) :: ([] : List (Option Int))))))) (ei_row (ev_call C_reads_of (hr.mono (by decide)) (ea_cons (ev_var (i := 24) rfl h_alone) ea_nil) (⟨false, (alone), (by first | assumption | exact hp_.1 | omega), rfl, rfl⟩))) (by first | exact reads_le (by assumption) | assumption | omega | (simp only [List.length_map, enumT_len, rg_len]; omega) | (simp; done) | (simp; omega)) (fun x152 hx153 v_ F1_ e_ r154 => by
      replace h_script := h_script.mono e_
      replace h_sa := h_sa.mono e_
      replace h_events := h_events.mono e_
      replace h_dirty := h_dirty.mono e_
      replace h_unsafe := h_unsafe.mono e_
      replace h_deeds := h_deeds.mono e_
      replace h_names := h_names.mono e_
      replace h_others := h_others.mono e_
      replace h_late := h_late.mono e_
      replace h_later := h_later.mono e_
      replace h_ahead := h_ahead.mono e_
      replace h_behind := h_behind.mono e_
      replace h_serial := h_serial.mono e_
      replace h_alone := h_alone.mono e_
      intro s_ H0_ C_ cl_ fp_
      refine tg_tup (ds := [D.int ((x152).1), D.int ((x152).2.1), (eO D.int) ((x152).2.2)]) r154 (fun vs158 rr159 => ?_)
      cases rr159 with | @cons v_at _ _ _ h_at rr159 => ?_
      cases rr159 with | @cons v_one _ _ _ h_one rr159 => ?_
      cases rr159 with | @cons v_writer _ _ _ h_writer rr159 => ?_
      cases rr159
      refine tgs_cons ?_
      cases h_at
      refine tg_name (i := 9) ?_
      refine tgs_cons ?_
      cases h_one
      refine tg_name (i := 10) ?_
      refine tgs_cons ?_
      refine tg_name (i := 11) ?_
      refine tgs_nil ?_
      refine ⟨((wipe_set (by decide)).trans ((wipe_set (by decide)).trans ((wipe_set (by decide)).trans (wipe_wipe)))), fun s_ H0_ C_ cl_ fp_ => ?_, fun ht_ s_ H0_ C_ cl_ fp_ => ?_⟩
      · exact ets_nil
      · exact (ev_cm (ev_var (i := 11) rfl h_writer) (ev_tupR (none :: ((some (0 : Int)) :: ([] : List (Option Int)))) (ea_consR (f := (eO D.int)) (x := none) (ev_is (d1 := (eO D.int) none) ev_non rfl) (ea_consR (f := (eO D.int)) (x := (some (0 : Int))) (ev_is (d1 := (eO D.int) (some (0 : Int))) ev_int rfl) (ea_nilR (f := (eO D.int))))) (by simp [rg_len, enumT_len]; try omega)) (cm_ni (f := (eO D.int)) (x := (x152).2.2) (xs := (none :: ((some (0 : Int)) :: ([] : List (Option Int))))) hr (Lw.opt lw_int (fun _ => rfl) (fun _ => rfl))) (by with_unfolding_all rfl)))) (ok := blkOk_by (N := N32) (sc := defScope s32) (by decide +kernel))) ea_nil) rfl)))))))) (by exact nv9 hAl) ?_
        change BlkS _ _ [some v_script, some (.ref dl), some v_events, some v_dirty, some v_unsafe, some v_deeds, none, some v_names, some v_others, o_at, none, none, some v_late, o_name, some v_later, some v_ahead, some v_behind, some v_serial, none, o_early, none, o_more, o_ended, o_rows, some v_alone, none] _ _ _
        refine bl_asgLc (i := 25) (lc_M (own := [("event", 6)]) (f := eEv) (g := eEv) (fun x161 => (((x161).1, ((9 : Int) - (x161).2.1), (x161).2.2) : Ev)) (ei_row (ev_var (i := 2) rfl h_events)) (by first | exact rep_len h_events | assumption | omega | (simp only [List.length_map, enumT_len, rg_len]; omega) | (simp; done) | (simp; omega)) (fun x161 hx162 v_ F1_ e_ r163 => by
      replace h_script := h_script.mono e_
      replace h_sa := h_sa.mono e_
      replace h_events := h_events.mono e_
      replace h_dirty := h_dirty.mono e_
      replace h_unsafe := h_unsafe.mono e_
      replace h_deeds := h_deeds.mono e_
      replace h_names := h_names.mono e_
      replace h_others := h_others.mono e_
      replace h_late := h_late.mono e_
      replace h_later := h_later.mono e_
      replace h_ahead := h_ahead.mono e_
      replace h_behind := h_behind.mono e_
      replace h_serial := h_serial.mono e_
      replace h_alone := h_alone.mono e_
      intro s_ H0_ C_ cl_ fp_
      refine tg_name (i := 6) ?_
      refine ⟨((wipe_set (by decide)).trans (wipe_wipe)), fun s_ H0_ C_ cl_ fp_ => ?_, fun ht_ s_ H0_ C_ cl_ fp_ => ?_⟩
      · exact ets_nil
      · exact (ev_eCat (ev_e0 (ev_var (i := 6) rfl r163) ev_int) (ev_sub ev_int (ev_e1 (ev_var (i := 6) rfl r163) ev_int)) (ev_eTl (ev_var (i := 6) rfl r163) (eo_some ev_int))))) (ok := blkOk_by (N := N32) (sc := defScope s32) (by decide +kernel)) (fun v_twin F_ e164 h_twin => ?_)
        have hl_twin := rep_len h_twin
        replace h_script := h_script.mono e164
        replace h_sa := h_sa.mono e164
        replace h_events := h_events.mono e164
        replace h_dirty := h_dirty.mono e164
        replace h_unsafe := h_unsafe.mono e164
        replace h_deeds := h_deeds.mono e164
        replace h_names := h_names.mono e164
        replace h_others := h_others.mono e164
        replace h_late := h_late.mono e164
        replace h_later := h_later.mono e164
        replace h_ahead := h_ahead.mono e164
        replace h_behind := h_behind.mono e164
        replace h_serial := h_serial.mono e164
        replace h_alone := h_alone.mono e164
        change BlkS _ _ [some v_script, some (.ref dl), some v_events, some v_dirty, some v_unsafe, some v_deeds, none, some v_names, some v_others, o_at, none, none, some v_late, o_name, some v_later, some v_ahead, some v_behind, some v_serial, none, o_early, none, o_more, o_ended, o_rows, some v_alone, some v_twin] _ _ _
        have hl_twin := rep_len h_twin
        generalize hd_twin : ((events).map fun x161 => (((x161).1, ((9 : Int) - (x161).2.1), (x161).2.2) : Ev)) = twin at h_twin hl_twin
        have hOt : Ok twin := hd_twin ▸ tw_ok hK
        change BlkS _ _ _ _ (upd W' dl (.lst [.ref sa, .int ((k1 : Nat) : Int)])) _
        refine bl_drop wn_draw (.cons h_sa (.cons (.int _) .nil)) (by simp) (fun F_ e_ => ?_)
        replace h_script := h_script.mono e_
        replace h_sa := h_sa.mono e_
        replace h_events := h_events.mono e_
        replace h_dirty := h_dirty.mono e_
        replace h_unsafe := h_unsafe.mono e_
        replace h_deeds := h_deeds.mono e_
        replace h_names := h_names.mono e_
        replace h_others := h_others.mono e_
        replace h_late := h_late.mono e_
        replace h_later := h_later.mono e_
        replace h_ahead := h_ahead.mono e_
        replace h_behind := h_behind.mono e_
        replace h_serial := h_serial.mono e_
        replace h_alone := h_alone.mono e_
        replace h_twin := h_twin.mono e_
        exact bl_ret (ev_is (d1 := .bl true) (ev_and (ev_cm (ev_call C_first_dirty (hr.mono (by decide)) (ea_cons (ev_var (i := 25) rfl h_twin) ea_nil) (⟨false, (twin), (by first | assumption | exact hp_.1 | omega), rfl, rfl⟩)) (ev_var (i := 3) rfl h_dirty) (cm_eq (f := (eO D.int)) (x := (m_first_dirty (twin))) (y := (m_first_dirty (events))) hr (Lw.opt lw_int (fun _ => rfl) (fun _ => rfl)))) (fun hb165 => (ev_and (ev_cm (ev_call C_first_unsafe (hr.mono (by decide)) (ea_cons (ev_var (i := 25) rfl h_twin) ea_nil) (⟨false, (twin), (by first | assumption | exact hp_.1 | omega), rfl, rfl⟩)) (ev_var (i := 4) rfl h_unsafe) (cm_eq (f := (eO D.int)) (x := (m_first_unsafe (twin))) (y := (m_first_unsafe (events))) hr (Lw.opt lw_int (fun _ => rfl) (fun _ => rfl)))) (fun hb166 => (ev_bop1 (ev_cm (ev_ofLc (lc_M (own := [("at", 9), ("one", 10), ("writer", 11)]) (f := (eP3 D.int D.int (eO D.int))) (g := (eP3 D.int D.int (eO D.int))) (fun x167 => ((x167).1, ((9 : Int) - (x167).2.1), (if (!((x167).2.2).isNone) = true then (some ((9 : Int) - (((x167).2.2).getD 0))) else none))) (ei_row (ev_call C_reads_of (hr.mono (by decide)) (ea_cons (ev_var (i := 25) rfl h_twin) ea_nil) (⟨false, (twin), (by first | assumption | exact hp_.1 | omega), rfl, rfl⟩))) (by first | exact reads_le (by assumption) | assumption | omega | (simp only [List.length_map, enumT_len, rg_len]; omega) | (simp; done) | (simp; omega)) (fun x167 hx168 v_ F1_ e_ r169 => by
      replace h_script := h_script.mono e_
      replace h_sa := h_sa.mono e_
      replace h_events := h_events.mono e_
      replace h_dirty := h_dirty.mono e_
      replace h_unsafe := h_unsafe.mono e_
      replace h_deeds := h_deeds.mono e_
      replace h_names := h_names.mono e_
      replace h_others := h_others.mono e_
      replace h_late := h_late.mono e_
      replace h_later := h_later.mono e_
      replace h_ahead := h_ahead.mono e_
      replace h_behind := h_behind.mono e_
      replace h_serial := h_serial.mono e_
      replace h_alone := h_alone.mono e_
      replace h_twin := h_twin.mono e_
      intro s_ H0_ C_ cl_ fp_
      refine tg_tup (ds := [D.int ((x167).1), D.int ((x167).2.1), (eO D.int) ((x167).2.2)]) r169 (fun vs173 rr174 => ?_)
      cases rr174 with | @cons v_at _ _ _ h_at rr174 => ?_
      cases rr174 with | @cons v_one _ _ _ h_one rr174 => ?_
      cases rr174 with | @cons v_writer _ _ _ h_writer rr174 => ?_
      cases rr174
      refine tgs_cons ?_
      cases h_at
      refine tg_name (i := 9) ?_
      refine tgs_cons ?_
      cases h_one
      refine tg_name (i := 10) ?_
      refine tgs_cons ?_
      refine tg_name (i := 11) ?_
      refine tgs_nil ?_
      refine ⟨((wipe_set (by decide)).trans ((wipe_set (by decide)).trans ((wipe_set (by decide)).trans (wipe_wipe)))), fun s_ H0_ C_ cl_ fp_ => ?_, fun ht_ s_ H0_ C_ cl_ fp_ => ?_⟩
      · exact ets_nil
      · exact (ev_is (d1 := (eP3 D.int D.int (eO D.int)) ((x167).1, ((9 : Int) - (x167).2.1), (if (!((x167).2.2).isNone) = true then (some ((9 : Int) - (((x167).2.2).getD 0))) else none))) (ev_tup (ea_cons (ev_var (i := 9) rfl (.int _)) (ea_cons (ev_sub ev_int (ev_var (i := 10) rfl (.int _))) (ea_cons (ev_if (f := (eO D.int)) (x := (some ((9 : Int) - (((x167).2.2).getD 0)))) (y := none) (et_cm (ev_var (i := 11) rfl h_writer) ev_non (cm_isnotO (f := D.int) (x := (x167).2.2) (fun _ => rfl))) (fun hi175 => (ev_is (d1 := (eO D.int) (some ((9 : Int) - (((x167).2.2).getD 0)))) (ev_sub ev_int (ev_is (d1 := D.int (((x167).2.2).getD 0)) (ev_var (i := 11) rfl h_writer) (eO_get (by first | (have q_ := hi175; revert q_; cases hO_ : (x167).2.2 <;> simp) | assumption)))) rfl)) (fun hi176 => (ev_is (d1 := (eO D.int) none) ev_non rfl))) ea_nil))) (by simp)) rfl))) (ok := blkOk_by (N := N32) (sc := defScope s32) (by decide +kernel))) (ev_call C_reads_of (hr.mono (by decide)) (ea_cons (ev_var (i := 2) rfl h_events) ea_nil) (⟨false, (events), (by first | assumption | exact hp_.1 | omega), rfl, rfl⟩)) (cm_eq (f := (eR false (eP3 D.int D.int (eO D.int)))) (x := (((m_reads_of (twin))).map fun x167 => ((x167).1, ((9 : Int) - (x167).2.1), (if (!((x167).2.2).isNone) = true then (some ((9 : Int) - (((x167).2.2).getD 0))) else none)))) (y := (m_reads_of (events))) hr (Lw.row (Lw.tripM lw_int lw_int (Lw.opt lw_int (fun _ => rfl) (fun _ => rfl))))))))))) (congrArg D.bl (by exact nv10 hK hd_twin))) ⟨rfl, rfl⟩
end
end B
set_option Elab.async false
set_option linter.all false
set_option maxRecDepth 100000
set_option maxHeartbeats 4000000
namespace B
open PySem PySem.Spec PyProof.Rows L2 Z
theorem spG_imp {r1 r2 : Rel} (h : ∀ ds F W d W', r2 ds F W d W' → r1 ds F W d W') : ∀ vs H Q E, spG r2 vs H Q E → spG r1 vs H Q E := fun vs H Q E ⟨F, W, ds, d, W', a, b, c, q⟩ => ⟨F, W, ds, d, W', a, b, h _ _ _ _ _ c, q⟩
theorem law_sp {K : PySem.W.Frag} {H : Hp} {a : Addr} {ns : List Int} (hl : ns.length ≤ 63) (hO : Only H) (hS : SqL K H a (ns.map V.int)) : spG (relP (r_law K)) [.ref a] H (fun v _ => v = .bl true) fun _ _ _ => False := by
  refine ⟨H, fun _ => none, [eZ K ns], .bl true, fun _ => none, ⟨fun b o h => .inl h, fun b o h => (by cases h), fun b o h => rfl⟩, .cons (.fz ?_ (Reps.of_ints ns) (by rw [List.length_map]; omega)) .nil, ⟨⟨ns, hl, rfl, rfl⟩, rfl⟩, fun v F' H' g r => by cases r; rfl⟩
  rcases hS with (h | ⟨o, h⟩) | h
  · rcases hO a with q | ⟨o, xs, q⟩
    · rw [q] at h; cases h
    · rw [q] at h; cases h
  · exact .inl ⟨o, h⟩
  · exact .inr h
theorem all_mk {l : PySem.W.OpenLaw} {w : World} {K : PySem.W.Frag} {h : Heap} {mg : Str → Option Value} {fa CI : Addr} (X : K.In h) (G : h.Ns mainGlobals mg) (hfa : mg "law" = some (.ref fa)) {t1 t2 t3 t4 : Tok}
    {f0 f1 f2 f3 f4 f5 f6 f7 f8 f9 f10 f11 f12 f13 f14 f15 f16 f17 f18 f19 : Addr} {od0 od1 od2 od3 od4 od5 od6 od7 od8 od9 od10 od11 od12 od13 od14 od15 od16 od17 od18 od19 : Option Addr} {an0 an1 an2 an3 an4 an5 an6 an7 an8 an9 an10 an11 an12 an13 an14 an15 an16 an17 an18 an19 : Option Addr} {sl0 sl1 sl2 sl3 sl4 sl5 sl6 sl7 sl8 sl9 sl10 sl11 sl12 sl13 sl14 sl15 sl16 sl17 sl18 sl19 : Array (Option Value)} {oc0 oc1 oc2 oc3 oc4 oc5 oc6 oc7 oc8 oc9 oc10 oc11 oc12 oc13 oc14 oc15 oc16 oc17 oc18 oc19 : Value} {kV0 kV1 kV2 kV3 kV4 kV5 kV6 kV7 kV8 kV9 kV10 kV11 kV12 kV13 kV14 kV15 kV16 kV17 kV18 kV19 : Value} {dc0 dc1 dc2 dc3 dc4 dc5 dc6 dc7 dc8 dc9 dc10 dc11 dc12 dc13 dc14 dc15 dc16 dc17 dc18 dc19 : Value} {pm0 pm1 pm2 pm3 pm4 pm5 pm6 pm7 pm8 pm9 pm10 pm11 pm12 pm13 pm14 pm15 pm16 pm17 pm18 pm19 : Value} {cd0 cd1 cd2 cd3 cd4 cd5 cd6 cd7 cd8 cd9 cd10 cd11 cd12 cd13 cd14 cd15 cd16 cd17 cd18 cd19 : Value} {ct0 ct1 ct2 ct3 ct4 ct5 ct6 ct7 ct8 ct9 ct10 ct11 ct12 ct13 ct14 ct15 ct16 ct17 ct18 ct19 : Value}
    (aI : PySem.W.nsIn K mainGlobals "InTurn" = some (some (.ref CI))) (a0 : PySem.W.nsIn K mainGlobals "is_integer" = some (some (.ref f0))) (l0 : K.lookup f0 = some ⟨oc0, od0, .func (PySem.W.fnOf "is_integer" "is_integer" (defArgs s8) (defBody s8) (defScope s8) .none kV0 dc0 pm0 an0 cd0 ct0), sl0⟩) (c0 : PySem.W.codeIn K cd0 "is_integer" = true) (k0 : PySem.W.keepIn K (.ref f0) = true) (a1 : PySem.W.nsIn K mainGlobals "is_row" = some (some (.ref f1))) (l1 : K.lookup f1 = some ⟨oc1, od1, .func (PySem.W.fnOf "is_row" "is_row" (defArgs s9) (defBody s9) (defScope s9) .none kV1 dc1 pm1 an1 cd1 ct1), sl1⟩) (c1 : PySem.W.codeIn K cd1 "is_row" = true) (k1 : PySem.W.keepIn K (.ref f1) = true) (a2 : PySem.W.nsIn K mainGlobals "is_name" = some (some (.ref f2))) (l2 : K.lookup f2 = some ⟨oc2, od2, .func (PySem.W.fnOf "is_name" "is_name" (defArgs s10) (defBody s10) (defScope s10) .none kV2 dc2 pm2 an2 cd2 ct2), sl2⟩) (c2 : PySem.W.codeIn K cd2 "is_name" = true) (k2 : PySem.W.keepIn K (.ref f2) = true) (a3 : PySem.W.nsIn K mainGlobals "check_schedule" = some (some (.ref f3))) (l3 : K.lookup f3 = some ⟨oc3, od3, .func (PySem.W.fnOf "check_schedule" "check_schedule" (defArgs s14) (defBody s14) (defScope s14) .none kV3 dc3 pm3 an3 cd3 ct3), sl3⟩) (c3 : PySem.W.codeIn K cd3 "check_schedule" = true) (k3 : PySem.W.keepIn K (.ref f3) = true) (a4 : PySem.W.nsIn K mainGlobals "standing" = some (some (.ref f4))) (l4 : K.lookup f4 = some ⟨oc4, od4, .func (PySem.W.fnOf "standing" "standing" (defArgs s15) (defBody s15) (defScope s15) .none kV4 dc4 pm4 an4 cd4 ct4), sl4⟩) (c4 : PySem.W.codeIn K cd4 "standing" = true) (k4 : PySem.W.keepIn K (.ref f4) = true) (a5 : PySem.W.nsIn K mainGlobals "edges_of" = some (some (.ref f5))) (l5 : K.lookup f5 = some ⟨oc5, od5, .func (PySem.W.fnOf "edges_of" "edges_of" (defArgs s16) (defBody s16) (defScope s16) .none kV5 dc5 pm5 an5 cd5 ct5), sl5⟩) (c5 : PySem.W.codeIn K cd5 "edges_of" = true) (k5 : PySem.W.keepIn K (.ref f5) = true) (a6 : PySem.W.nsIn K mainGlobals "answered_at" = some (some (.ref f6))) (l6 : K.lookup f6 = some ⟨oc6, od6, .func (PySem.W.fnOf "answered_at" "answered_at" (defArgs s22) (defBody s22) (defScope s22) .none kV6 dc6 pm6 an6 cd6 ct6), sl6⟩) (c6 : PySem.W.codeIn K cd6 "answered_at" = true) (k6 : PySem.W.keepIn K (.ref f6) = true) (a7 : PySem.W.nsIn K mainGlobals "reads_of" = some (some (.ref f7))) (l7 : K.lookup f7 = some ⟨oc7, od7, .func (PySem.W.fnOf "reads_of" "reads_of" (defArgs s21) (defBody s21) (defScope s21) .none kV7 dc7 pm7 an7 cd7 ct7), sl7⟩) (c7 : PySem.W.codeIn K cd7 "reads_of" = true) (k7 : PySem.W.keepIn K (.ref f7) = true) (a8 : PySem.W.nsIn K mainGlobals "first_unsafe" = some (some (.ref f8))) (l8 : K.lookup f8 = some ⟨oc8, od8, .func (PySem.W.fnOf "first_unsafe" "first_unsafe" (defArgs s23) (defBody s23) (defScope s23) .none kV8 dc8 pm8 an8 cd8 ct8), sl8⟩) (c8 : PySem.W.codeIn K cd8 "first_unsafe" = true) (k8 : PySem.W.keepIn K (.ref f8) = true) (a9 : PySem.W.nsIn K mainGlobals "first_dirty" = some (some (.ref f9))) (l9 : K.lookup f9 = some ⟨oc9, od9, .func (PySem.W.fnOf "first_dirty" "first_dirty" (defArgs s24) (defBody s24) (defScope s24) .none kV9 dc9 pm9 an9 cd9 ct9), sl9⟩) (c9 : PySem.W.codeIn K cd9 "first_dirty" = true) (k9 : PySem.W.keepIn K (.ref f9) = true) (a10 : PySem.W.nsIn K mainGlobals "judge_schedule" = some (some (.ref f10))) (l10 : K.lookup f10 = some ⟨oc10, od10, .func (PySem.W.fnOf "judge_schedule" "judge_schedule" (defArgs s19) (defBody s19) (defScope s19) .none kV10 dc10 pm10 an10 cd10 ct10), sl10⟩) (c10 : PySem.W.codeIn K cd10 "judge_schedule" = true) (k10 : PySem.W.keepIn K (.ref f10) = true) (a11 : PySem.W.nsIn K mainGlobals "_law_number" = some (some (.ref f11))) (l11 : K.lookup f11 = some ⟨oc11, od11, .func (PySem.W.fnOf "_law_number" "_law_number" (defArgs s26) (defBody s26) (defScope s26) .none kV11 dc11 pm11 an11 cd11 ct11), sl11⟩) (c11 : PySem.W.codeIn K cd11 "_law_number" = true) (k11 : PySem.W.keepIn K (.ref f11) = true) (a12 : PySem.W.nsIn K mainGlobals "_law_take" = some (some (.ref f12))) (l12 : K.lookup f12 = some ⟨oc12, od12, .func (PySem.W.fnOf "_law_take" "_law_take" (defArgs s27) (defBody s27) (defScope s27) .none kV12 dc12 pm12 an12 cd12 ct12), sl12⟩) (c12 : PySem.W.codeIn K cd12 "_law_take" = true) (k12 : PySem.W.keepIn K (.ref f12) = true) (a13 : PySem.W.nsIn K mainGlobals "_law_pick" = some (some (.ref f13))) (l13 : K.lookup f13 = some ⟨oc13, od13, .func (PySem.W.fnOf "_law_pick" "_law_pick" (defArgs s28) (defBody s28) (defScope s28) .none kV13 dc13 pm13 an13 cd13 ct13), sl13⟩) (c13 : PySem.W.codeIn K cd13 "_law_pick" = true) (k13 : PySem.W.keepIn K (.ref f13) = true) (a14 : PySem.W.nsIn K mainGlobals "_law_events" = some (some (.ref f14))) (l14 : K.lookup f14 = some ⟨oc14, od14, .func (PySem.W.fnOf "_law_events" "_law_events" (defArgs s29) (defBody s29) (defScope s29) .none kV14 dc14 pm14 an14 cd14 ct14), sl14⟩) (c14 : PySem.W.codeIn K cd14 "_law_events" = true) (k14 : PySem.W.keepIn K (.ref f14) = true) (a15 : PySem.W.nsIn K mainGlobals "_law_read" = some (some (.ref f15))) (l15 : K.lookup f15 = some ⟨oc15, od15, .func (PySem.W.fnOf "_law_read" "_law_read" (defArgs s30) (defBody s30) (defScope s30) .none kV15 dc15 pm15 an15 cd15 ct15), sl15⟩) (c15 : PySem.W.codeIn K cd15 "_law_read" = true) (k15 : PySem.W.keepIn K (.ref f15) = true) (a16 : PySem.W.nsIn K mainGlobals "_law_wrong" = some (some (.ref f16))) (l16 : K.lookup f16 = some ⟨oc16, od16, .func (PySem.W.fnOf "_law_wrong" "_law_wrong" (defArgs s31) (defBody s31) (defScope s31) .none kV16 dc16 pm16 an16 cd16 ct16), sl16⟩) (c16 : PySem.W.codeIn K cd16 "_law_wrong" = true) (k16 : PySem.W.keepIn K (.ref f16) = true) (a17 : PySem.W.nsIn K mainGlobals "law" = some (some (.ref f17))) (l17 : K.lookup f17 = some ⟨oc17, od17, .func (PySem.W.fnOf "law" "law" (defArgs s32) (defBody s32) (defScope s32) .none kV17 dc17 pm17 an17 cd17 ct17), sl17⟩) (c17 : PySem.W.codeIn K cd17 "law" = true) (k17 : PySem.W.keepIn K (.ref f17) = true) (a18 : PySem.W.findIn K (.ref CI) "__init__" = some (some (.ref f18))) (i18 : PySem.W.isFn K (.ref f18) = true) (l18 : K.lookup f18 = some ⟨oc18, od18, .func (PySem.W.fnOf "__init__" "InTurn.__init__" (defArgs s17x0) (defBody s17x0) (defScope s17x0) .none kV18 dc18 pm18 an18 cd18 ct18), sl18⟩) (c18 : PySem.W.codeIn K cd18 "InTurn.__init__" = true) (k18 : PySem.W.keepIn K (.ref f18) = true) (a19 : PySem.W.findIn K (.ref CI) "__eq__" = some (some (.ref f19))) (i19 : PySem.W.isFn K (.ref f19) = true) (l19 : K.lookup f19 = some ⟨oc19, od19, .func (PySem.W.fnOf "__eq__" "InTurn.__eq__" (defArgs s17x2) (defBody s17x2) (defScope s17x2) .none kV19 dc19 pm19 an19 cd19 ct19), sl19⟩) (c19 : PySem.W.codeIn K cd19 "InTurn.__eq__" = true) (k19 : PySem.W.keepIn K (.ref f19) = true) (pgi : PySem.W.plainGet K CI Str.empty = true) (hdi : PySem.W.hasDictIn K CI = true) (poi : PySem.W.plainOver K CI = true) (sai : PySem.W.findIn K (.ref CI) "__setattr__" = some (some (.builtin "object.__setattr__"))) (nei : PySem.W.findIn K (.ref CI) "__ne__" = some (some (.builtin "object.__ne__"))) (obi : PySem.W.mroIn K CI (.type "object") = some true) (cli : PySem.W.findIn K (.ref CI) "__class__" = some (some (.builtin "object.__class__"))) (mki : PySem.W.makesIn K CI = true) (kci : PySem.W.keepIn K (.ref CI) = true) (gt : PySem.W.specialIn K (.builtin "object.__class__") "__get__" = some (some (.builtin "getset_descriptor.__get__"))) (no1 : PySem.W.findIn K (.ref CI) "order" = some none) (tk : PySem.W.takesIn K (.builtin "object.__class__") = some true) (nfn : PySem.W.notFirst K CI (.ref CI) = true) (sm : PySem.W.nsIn K mainGlobals "SMALL" = some (some (.str "abcdefghijklmnopqrstuvwxyz" t1))) (fg : PySem.W.nsIn K mainGlobals "FIGURES" = some (some (.str "0123456789" t2))) (mn : PySem.W.nsIn K mainGlobals "MOST_NAME" = some (some (.int 8 t3))) (mc : PySem.W.nsIn K mainGlobals "MOST_COMMITS" = some (some (.int 30 t4))) (z0 : PySem.W.nsIn K mainGlobals "isinstance" = some none) (z1 : PySem.W.nsIn K mainGlobals "int" = some none) (z2 : PySem.W.nsIn K mainGlobals "bool" = some none) (z3 : PySem.W.nsIn K mainGlobals "str" = some none) (z4 : PySem.W.nsIn K mainGlobals "len" = some none) (z5 : PySem.W.nsIn K mainGlobals "all" = some none) (z6 : PySem.W.nsIn K mainGlobals "any" = some none) (z7 : PySem.W.nsIn K mainGlobals "list" = some none) (z8 : PySem.W.nsIn K mainGlobals "tuple" = some none) (z9 : PySem.W.nsIn K mainGlobals "dict" = some none) (z10 : PySem.W.nsIn K mainGlobals "sorted" = some none) (z11 : PySem.W.nsIn K mainGlobals "set" = some none) (z12 : PySem.W.nsIn K mainGlobals "enumerate" = some none) (z13 : PySem.W.nsIn K mainGlobals "zip" = some none) (z14 : PySem.W.nsIn K mainGlobals "range" = some none) :
    ∃ fd : FuncData, (∀ (s : Shared) (v : Value), BindsTo s fd ⟨[v], []⟩ [("script", v)]) ∧ ∀ base : Heap, K.In base → base.Ns mainGlobals mg → FnOk l.prog w K mg base CX0 6 fa fd ["script"] (spG (relP (r_law K))) := by
  have e := hfa.symm.trans (PySem.W.mg_of X G a17)
  cases e
  have T : Txt K mg := { isinstance := PySem.W.mg_none_of X G z0, int := PySem.W.mg_none_of X G z1, bool := PySem.W.mg_none_of X G z2, str := PySem.W.mg_none_of X G z3, len := PySem.W.mg_none_of X G z4, all := PySem.W.mg_none_of X G z5, any := PySem.W.mg_none_of X G z6, list := PySem.W.mg_none_of X G z7, tuple := PySem.W.mg_none_of X G z8, dict := PySem.W.mg_none_of X G z9, sorted := PySem.W.mg_none_of X G z10, set := PySem.W.mg_none_of X G z11, enumerate := PySem.W.mg_none_of X G z12, zip := PySem.W.mg_none_of X G z13, range := PySem.W.mg_none_of X G z14, SMALL := ⟨t1, PySem.W.mg_of X G sm⟩, FIGURES := ⟨t2, PySem.W.mg_of X G fg⟩, MOST_NAME := ⟨t3, PySem.W.mg_of X G mn⟩, MOST_COMMITS := ⟨t4, PySem.W.mg_of X G mc⟩ }
  have Y : Cl K mg CI := ⟨⟨⟨pgi, hdi, poi, sai⟩, nei, obi, cli, gt, tk⟩, PySem.W.mg_of X G aI, no1, by unfold PySem.W.kitOne; exact if_pos (by simp), nfn⟩
  have F0 := fun_mk (st := s8) l0 c0 k0
  have b0 := F0.binds (ps := ["thing"]) fun _ _ _ _ _ _ us hl => match us, hl with | [_], _ => rfl
  have F1 := fun_mk (st := s9) l1 c1 k1
  have b1 := F1.binds (ps := ["thing"]) fun _ _ _ _ _ _ us hl => match us, hl with | [_], _ => rfl
  have F2 := fun_mk (st := s10) l2 c2 k2
  have b2 := F2.binds (ps := ["thing"]) fun _ _ _ _ _ _ us hl => match us, hl with | [_], _ => rfl
  have F3 := fun_mk (st := s14) l3 c3 k3
  have b3 := F3.binds (ps := ["events"]) fun _ _ _ _ _ _ us hl => match us, hl with | [_], _ => rfl
  have F4 := fun_mk (st := s15) l4 c4 k4
  have b4 := F4.binds (ps := ["events"]) fun _ _ _ _ _ _ us hl => match us, hl with | [_], _ => rfl
  have F5 := fun_mk (st := s16) l5 c5 k5
  have b5 := F5.binds (ps := ["events"]) fun _ _ _ _ _ _ us hl => match us, hl with | [_], _ => rfl
  have F6 := fun_mk (st := s22) l6 c6 k6
  have b6 := F6.binds (ps := ["events"]) fun _ _ _ _ _ _ us hl => match us, hl with | [_], _ => rfl
  have F7 := fun_mk (st := s21) l7 c7 k7
  have b7 := F7.binds (ps := ["events"]) fun _ _ _ _ _ _ us hl => match us, hl with | [_], _ => rfl
  have F8 := fun_mk (st := s23) l8 c8 k8
  have b8 := F8.binds (ps := ["events"]) fun _ _ _ _ _ _ us hl => match us, hl with | [_], _ => rfl
  have F9 := fun_mk (st := s24) l9 c9 k9
  have b9 := F9.binds (ps := ["events"]) fun _ _ _ _ _ _ us hl => match us, hl with | [_], _ => rfl
  have F10 := fun_mk (st := s19) l10 c10 k10
  have b10 := F10.binds (ps := ["events"]) fun _ _ _ _ _ _ us hl => match us, hl with | [_], _ => rfl
  have F11 := fun_mk (st := s26) l11 c11 k11
  have b11 := F11.binds (ps := ["script", "index"]) fun _ _ _ _ _ _ us hl => match us, hl with | [_, _], _ => rfl
  have F12 := fun_mk (st := s27) l12 c12 k12
  have b12 := F12.binds (ps := ["draw", "many"]) fun _ _ _ _ _ _ us hl => match us, hl with | [_, _], _ => rfl
  have F13 := fun_mk (st := s28) l13 c13 k13
  have b13 := F13.binds (ps := ["draw", "items"]) fun _ _ _ _ _ _ us hl => match us, hl with | [_, _], _ => rfl
  have F14 := fun_mk (st := s29) l14 c14 k14
  have b14 := F14.binds (ps := ["draw"]) fun _ _ _ _ _ _ us hl => match us, hl with | [_], _ => rfl
  have F15 := fun_mk (st := s30) l15 c15 k15
  have b15 := F15.binds (ps := ["events"]) fun _ _ _ _ _ _ us hl => match us, hl with | [_], _ => rfl
  have F16 := fun_mk (st := s31) l16 c16 k16
  have b16 := F16.binds (ps := ["events", "is_dirty"]) fun _ _ _ _ _ _ us hl => match us, hl with | [_, _], _ => rfl
  have F17 := fun_mk (st := s32) l17 c17 k17
  have b17 := F17.binds (ps := ["script"]) fun _ _ _ _ _ _ us hl => match us, hl with | [_], _ => rfl
  have F18 := fun_mk (st := s17x0) l18 c18 k18
  have b18 := F18.binds (ps := ["self", "order"]) fun _ _ _ _ _ _ us hl => match us, hl with | [_, _], _ => rfl
  have F19 := fun_mk (st := s17x2) l19 c19 k19
  have b19 := F19.binds (ps := ["self", "other"]) fun _ _ _ _ _ _ us hl => match us, hl with | [_, _], _ => rfl
  refine ⟨PySem.W.fnOf "law" "law" (defArgs s32) (defBody s32) (defScope s32) .none kV17 dc17 pm17 an17 cd17 ct17, fun s v => .of_eq rfl, fun base _ _ => ?_⟩
  have InI : InD l.prog w K mg base 1 "InTurn" CI ["self", "order"] rel_init := ⟨f18, _, d_InTurn_init T Y F18, ⟨mki, a18, i18, kci⟩, PySem.W.mg_of X G aI, b18⟩
  have C_is_integer : FnD l.prog w K mg base 1 "is_integer" ["thing"] (relP r_is_integer) := ⟨f0, _, d_is_integer T F0, PySem.W.mg_of X G a0, k0, b0⟩
  have C_is_row : FnD l.prog w K mg base 1 "is_row" ["thing"] (relP r_is_row) := ⟨f1, _, d_is_row T F1, PySem.W.mg_of X G a1, k1, b1⟩
  have C_is_name : FnD l.prog w K mg base 1 "is_name" ["thing"] (relP r_is_name) := ⟨f2, _, d_is_name T F2, PySem.W.mg_of X G a2, k2, b2⟩
  have C_check_schedule : FnD l.prog w K mg base 2 "check_schedule" ["events"] (relP r_check_schedule) := ⟨f3, _, d_check_schedule T C_is_integer C_is_row C_is_name F3, PySem.W.mg_of X G a3, k3, b3⟩
  have C_standing : FnD l.prog w K mg base 1 "standing" ["events"] (relP r_standing) := ⟨f4, _, d_standing T F4, PySem.W.mg_of X G a4, k4, b4⟩
  have C_edges_of : FnD l.prog w K mg base 2 "edges_of" ["events"] (relP r_edges_of) := ⟨f5, _, d_edges_of T C_standing F5, PySem.W.mg_of X G a5, k5, b5⟩
  have C_answered_at : FnD l.prog w K mg base 1 "answered_at" ["events"] (relP r_answered_at) := ⟨f6, _, d_answered_at T F6, PySem.W.mg_of X G a6, k6, b6⟩
  have C_reads_of : FnD l.prog w K mg base 3 "reads_of" ["events"] (relP r_reads_of) := ⟨f7, _, d_reads_of T C_check_schedule F7, PySem.W.mg_of X G a7, k7, b7⟩
  have C_first_unsafe : FnD l.prog w K mg base 4 "first_unsafe" ["events"] (relP r_first_unsafe) := ⟨f8, _, d_first_unsafe T C_answered_at C_reads_of F8, PySem.W.mg_of X G a8, k8, b8⟩
  have C_first_dirty : FnD l.prog w K mg base 4 "first_dirty" ["events"] (relP r_first_dirty) := ⟨f9, _, d_first_dirty T C_answered_at C_reads_of F9, PySem.W.mg_of X G a9, k9, b9⟩
  have C_judge_schedule : FnD l.prog w K mg base 3 "judge_schedule" ["events"] (relP (r_judge CI)) := ⟨f10, _, d_judge T Y InI C_check_schedule C_standing C_edges_of F10, PySem.W.mg_of X G a10, k10, b10⟩
  have C__law_number : FnD l.prog w K mg base 1 "_law_number" ["script", "index"] (relP (r__law_number K)) := ⟨f11, _, d__law_number T F11, PySem.W.mg_of X G a11, k11, b11⟩
  have C_take : FnD l.prog w K mg base 2 "_law_take" ["draw", "many"] (r_take K) := ⟨f12, _, d_take T C__law_number F12, PySem.W.mg_of X G a12, k12, b12⟩
  have C_pick : FnD l.prog w K mg base 3 "_law_pick" ["draw", "items"] (r_pick K) := ⟨f13, _, d_pick T C_take F13, PySem.W.mg_of X G a13, k13, b13⟩
  have C_events : FnD l.prog w K mg base 4 "_law_events" ["draw"] (r_events K) := ⟨f14, _, d_events T C_take C_pick F14, PySem.W.mg_of X G a14, k14, b14⟩
  have C__law_read : FnD l.prog w K mg base 1 "_law_read" ["events"] (relP r__law_read) := ⟨f15, _, d__law_read T F15, PySem.W.mg_of X G a15, k15, b15⟩
  have C__law_wrong : FnD l.prog w K mg base 2 "_law_wrong" ["events", "is_dirty"] (relP r__law_wrong) := ⟨f16, _, d__law_wrong T C__law_read F16, PySem.W.mg_of X G a16, k16, b16⟩
  have Me : MeD l.prog w K mg base 1 CI "__eq__" ["self", "other"] (relP (r_InTurn_eq CI)) := ⟨f19, _, d_InTurn_eq T Y F19, ⟨a19, i19, k19⟩, b19⟩
  exact d_law T Y Me InI C_reads_of C_first_unsafe C_first_dirty C__law_read C__law_wrong C_judge_schedule C_events F17
end B
open PySem PySem.W PyProof.Rows
set_option maxHeartbeats 0 in
theorem PySem.Challenge.cw_storepages_k58_across_reads_holds : PySem.Challenge.rw_storepages_k58_across_reads.Holds := by
  w_on; o_law; k_head; (case hw => w_witness2)
  k_fill
  refine L2.walk_of (l := PySem.Challenge.rw_storepages_k58_across_reads) (n := 63) (k := 6) (x := "script") (CX := fun _ => L2.CX0) (sp := fun w => Z.spG (Z.relP (B.r_law _))) rfl (by decide) rfl ⟨rfl, by decide, by decide⟩ (fun w h Y => PySem.W.kIn_of Y) ?F (fun _ _ a ns hl hO hS => B.law_sp hl hO hS) (fun _ _ _ _ _ h => h)
  case F =>
    intro w mg fa h KX G hmg
    refine' B.all_mk KX G hmg ?aI ?a0 ?l0 ?c0 ?k0 ?a1 ?l1 ?c1 ?k1 ?a2 ?l2 ?c2 ?k2 ?a3 ?l3 ?c3 ?k3 ?a4 ?l4 ?c4 ?k4 ?a5 ?l5 ?c5 ?k5 ?a6 ?l6 ?c6 ?k6 ?a7 ?l7 ?c7 ?k7 ?a8 ?l8 ?c8 ?k8 ?a9 ?l9 ?c9 ?k9 ?a10 ?l10 ?c10 ?k10 ?a11 ?l11 ?c11 ?k11 ?a12 ?l12 ?c12 ?k12 ?a13 ?l13 ?c13 ?k13 ?a14 ?l14 ?c14 ?k14 ?a15 ?l15 ?c15 ?k15 ?a16 ?l16 ?c16 ?k16 ?a17 ?l17 ?c17 ?k17 ?a18 ?i18 ?l18 ?c18 ?k18 ?a19 ?i19 ?l19 ?c19 ?k19 ?pgi ?hdi ?poi ?sai ?nei ?obi ?cli ?mki ?kci ?gt ?no1 ?tk ?nfn ?sm ?fg ?mn ?mc ?z0 ?z1 ?z2 ?z3 ?z4 ?z5 ?z6 ?z7 ?z8 ?z9 ?z10 ?z11 ?z12 ?z13 ?z14
    (case aI => k_is)
    (case a0 => k_is)
    (case l0 => k_is)
    (case c0 => k_is)
    (case k0 => k_is)
    (case a1 => k_is)
    (case l1 => k_is)
    (case c1 => k_is)
    (case k1 => k_is)
    (case a2 => k_is)
    (case l2 => k_is)
    (case c2 => k_is)
    (case k2 => k_is)
    (case a3 => k_is)
    (case l3 => k_is)
    (case c3 => k_is)
    (case k3 => k_is)
    (case a4 => k_is)
    (case l4 => k_is)
    (case c4 => k_is)
    (case k4 => k_is)
    (case a5 => k_is)
    (case l5 => k_is)
    (case c5 => k_is)
    (case k5 => k_is)
    (case a6 => k_is)
    (case l6 => k_is)
    (case c6 => k_is)
    (case k6 => k_is)
    (case a7 => k_is)
    (case l7 => k_is)
    (case c7 => k_is)
    (case k7 => k_is)
    (case a8 => k_is)
    (case l8 => k_is)
    (case c8 => k_is)
    (case k8 => k_is)
    (case a9 => k_is)
    (case l9 => k_is)
    (case c9 => k_is)
    (case k9 => k_is)
    (case a10 => k_is)
    (case l10 => k_is)
    (case c10 => k_is)
    (case k10 => k_is)
    (case a11 => k_is)
    (case l11 => k_is)
    (case c11 => k_is)
    (case k11 => k_is)
    (case a12 => k_is)
    (case l12 => k_is)
    (case c12 => k_is)
    (case k12 => k_is)
    (case a13 => k_is)
    (case l13 => k_is)
    (case c13 => k_is)
    (case k13 => k_is)
    (case a14 => k_is)
    (case l14 => k_is)
    (case c14 => k_is)
    (case k14 => k_is)
    (case a15 => k_is)
    (case l15 => k_is)
    (case c15 => k_is)
    (case k15 => k_is)
    (case a16 => k_is)
    (case l16 => k_is)
    (case c16 => k_is)
    (case k16 => k_is)
    (case a17 => k_is)
    (case l17 => k_is)
    (case c17 => k_is)
    (case k17 => k_is)
    (case a18 => k_is)
    (case i18 => k_is)
    (case l18 => k_is)
    (case c18 => k_is)
    (case k18 => k_is)
    (case a19 => k_is)
    (case i19 => k_is)
    (case l19 => k_is)
    (case c19 => k_is)
    (case k19 => k_is)
    (case pgi => k_is)
    (case hdi => k_is)
    (case poi => k_is)
    (case sai => k_is)
    (case nei => k_is)
    (case obi => k_is)
    (case cli => k_is)
    (case mki => k_is)
    (case kci => k_is)
    (case gt => k_is)
    (case no1 => k_is)
    (case tk => k_is)
    (case nfn => k_is)
    (case sm => k_is)
    (case fg => k_is)
    (case mn => k_is)
    (case mc => k_is)
    (case z0 => k_is)
    (case z1 => k_is)
    (case z2 => k_is)
    (case z3 => k_is)
    (case z4 => k_is)
    (case z5 => k_is)
    (case z6 => k_is)
    (case z7 => k_is)
    (case z8 => k_is)
    (case z9 => k_is)
    (case z10 => k_is)
    (case z11 => k_is)
    (case z12 => k_is)
    (case z13 => k_is)
    (case z14 => k_is)
#print axioms PySem.Challenge.cw_storepages_k58_across_reads_holds
