import PyProof.Rows.All
import Wide.All
import OpenK.AllK
import Wide.FinOn
import HandS.ForMost
import HandS.Wide
import HandS.TupAny
import HandS.TupMul
import HandS.IsInst
import HandS.Style
import HandS.Zip
import HandS.Property
import HandS.Star
import HandS.MakeKwOnly
import HandS.DictSub
import HandS.SlotsOwn
import KE.KOpsOwn
import HandS.NamedTupGet
import PyProof.InstNe
import KE.KStateDown
import HandS.Ends
import HandS.Head0
import HandS.Head1
import HandS.Head2
import HandS.HeadEnd
import HandS.HeadHook1
import HandS.HeadHook2
import HandS.NoneIn
import PySem.Challenge.RW_cursorkeys_k38_whole_keys_objects
set_option Elab.async false
set_option linter.all false
set_option maxRecDepth 100000
set_option maxHeartbeats 0
/-! A layer of plain data over the hand layer: slots hold data, owned cells beside them. -/
namespace Dl
open PySem PySem.Spec PyProof.Rows L2

/-- plain data -/
inductive D where
  | non | bl (b : Bool) | int (i : Int) | str (l : List Nat) | ty (n : String)
  | lst (xs : List D) | tup (xs : List D) | rl (xs : List D)
  | ins (C : Addr) (fs : List (Str × D))
  | at (a : Addr)
abbrev sOf (l : List Nat) : Str := ⟨l.toArray⟩

/-- a tuple: tracked, or of the written part -/
def TupAt (K : PySem.W.Frag) (H : Hp) (a : Addr) (xs : List V) : Prop := H a = some (.tup xs) ∨
  ∃ (o : Obj) (its : Array Value) (n : Nat), K.lookup a = some o ∧ o.cls = .type "tuple" ∧ o.data = .seq its n ∧ its.size ≤ sizeLine ∧ Vals xs its.toList
theorem TupAt.sq {K : PySem.W.Frag} {H : Hp} {a : Addr} {xs : List V} (h : TupAt K H a xs) : SqT K H a xs := h.elim (fun h => .inl (.inl h)) .inr
theorem TupAt.mono {K : PySem.W.Frag} {H H' : Hp} {a : Addr} {xs : List V} (e : Same H H') (h : TupAt K H a xs) : TupAt K H' a xs := h.elim (fun h => .inl (e _ _ h)) .inr
mutual
/-- a value stands for data -/
inductive Rep (K : PySem.W.Frag) (H : Hp) : V → D → Prop
  | non : Rep K H .non .non
  | bl (b : Bool) : Rep K H (.bl b) (.bl b)
  | int (i : Int) : Rep K H (.int i) (.int i)
  | str (l : List Nat) : Rep K H (.str (sOf l)) (.str l)
  | ty (n : String) : Rep K H (.ty n) (.ty n)
  | lst {a : Addr} {xs : List V} {ds : List D} : H a = some (.lst xs) → Reps K H xs ds → Rep K H (.ref a) (.lst ds)
  | rl {a : Addr} {xs : List V} {ds : List D} : SqL K H a xs → Reps K H xs ds → Rep K H (.ref a) (.rl ds)
  | tup {a : Addr} {xs : List V} {ds : List D} : TupAt K H a xs → Reps K H xs ds → Rep K H (.ref a) (.tup ds)
  | ins {a C dx : Addr} {fs : List (Str × V)} {gs : List (Str × D)} : H a = some (.ins C dx fs) → RepF K H fs gs → Rep K H (.ref a) (.ins C gs)
  | at (a : Addr) : Rep K H (.ref a) (.at a)
inductive Reps (K : PySem.W.Frag) (H : Hp) : List V → List D → Prop
  | nil : Reps K H [] []
  | cons {v : V} {vs : List V} {d : D} {ds : List D} : Rep K H v d → Reps K H vs ds → Reps K H (v :: vs) (d :: ds)
inductive RepF (K : PySem.W.Frag) (H : Hp) : List (Str × V) → List (Str × D) → Prop
  | nil : RepF K H [] []
  | cons {x : Str} {v : V} {vs : List (Str × V)} {d : D} {ds : List (Str × D)} : Rep K H v d → RepF K H vs ds → RepF K H ((x, v) :: vs) ((x, d) :: ds)
end

section
variable {K : PySem.W.Frag} {H H' : Hp}
theorem rd_mono {a : Addr} {u : HO} (e : Same H H') (h : Rd H a u) : Rd H' a u := by
  rcases h with h | ⟨o, h⟩
  · exact Or.inl (e a _ h)
  · exact Or.inr ⟨o, e a _ h⟩
theorem sql_mono {a : Addr} {xs : List V} (e : Same H H') (h : SqL K H a xs) : SqL K H' a xs := e.seq h
theorem sqt_mono {a : Addr} {xs : List V} (e : Same H H') (h : SqT K H a xs) : SqT K H' a xs := by
  rcases h with h | h
  · exact Or.inl (rd_mono e h)
  · exact Or.inr h
mutual
theorem Rep.mono (e : Same H H') : ∀ {v : V} {d : D}, Rep K H v d → Rep K H' v d
  | _, _, .non => .non
  | _, _, .bl b => .bl b
  | _, _, .int i => .int i
  | _, _, .str l => .str l
  | _, _, .ty n => .ty n
  | _, _, .lst h r => .lst (e _ _ h) (Reps.mono e r)
  | _, _, .rl h r => .rl (sql_mono e h) (Reps.mono e r)
  | _, _, .tup h r => .tup (h.mono e) (Reps.mono e r)
  | _, _, .ins h r => .ins (e _ _ h) (RepF.mono e r)
  | _, _, .at a => .at a
theorem Reps.mono (e : Same H H') : ∀ {vs : List V} {ds : List D}, Reps K H vs ds → Reps K H' vs ds
  | _, _, .nil => .nil
  | _, _, .cons h r => .cons (Rep.mono e h) (Reps.mono e r)
theorem RepF.mono (e : Same H H') : ∀ {vs : List (Str × V)} {ds : List (Str × D)}, RepF K H vs ds → RepF K H' vs ds
  | _, _, .nil => .nil
  | _, _, .cons h r => .cons (Rep.mono e h) (RepF.mono e r)
end
theorem Reps.length : ∀ {vs : List V} {ds : List D}, Reps K H vs ds → vs.length = ds.length
  | _, _, .nil => rfl
  | _, _, .cons _ r => congrArg (· + 1) (Reps.length r)
theorem Reps.get : ∀ {vs : List V} {ds : List D} {i : Nat} {d : D}, Reps K H vs ds → ds[i]? = some d → ∃ v, vs[i]? = some v ∧ Rep K H v d
  | _, _, _, _, .nil, e => by simp at e
  | _, _, 0, _, .cons h r, e => by simp at e; subst e; exact ⟨_, rfl, h⟩
  | _, _, i + 1, d, .cons h r, e => by
    obtain ⟨v, h1, h2⟩ := Reps.get (i := i) r (by simpa using e)
    exact ⟨v, by simpa using h1, h2⟩
theorem Reps.getV : ∀ {vs : List V} {ds : List D} {i : Nat} {v : V}, Reps K H vs ds → vs[i]? = some v → ∃ d, ds[i]? = some d ∧ Rep K H v d
  | _, _, _, _, .nil, e => by simp at e
  | _, _, 0, _, .cons h r, e => by simp at e; subst e; exact ⟨_, rfl, h⟩
  | _, _, i + 1, d, .cons h r, e => by
    obtain ⟨v, h1, h2⟩ := Reps.getV (i := i) r (by simpa using e)
    exact ⟨v, by simpa using h1, h2⟩
theorem Reps.append : ∀ {vs ws : List V} {ds es : List D}, Reps K H vs ds → Reps K H ws es → Reps K H (vs ++ ws) (ds ++ es)
  | _, _, _, _, .nil, s => s
  | _, _, _, _, .cons h r, s => .cons h (Reps.append r s)
theorem Reps.take : ∀ {vs : List V} {ds : List D} (n : Nat), Reps K H vs ds → Reps K H (vs.take n) (ds.take n)
  | _, _, 0, _ => by simpa using Reps.nil
  | _, _, n + 1, .nil => by simpa using Reps.nil
  | _, _, n + 1, .cons h r => .cons h (Reps.take n r)
theorem Reps.drop : ∀ {vs : List V} {ds : List D} (n : Nat), Reps K H vs ds → Reps K H (vs.drop n) (ds.drop n)
  | _, _, 0, r => r
  | _, _, n + 1, .nil => .nil
  | _, _, n + 1, .cons h r => Reps.drop n r
theorem Reps.set : ∀ {vs : List V} {ds : List D} {v : V} {d : D} (n : Nat), Reps K H vs ds → Rep K H v d → Reps K H (vs.set n v) (ds.set n d)
  | _, _, _, _, _, .nil, _ => .nil
  | _, _, _, _, 0, .cons _ r, h => .cons h r
  | _, _, _, _, n + 1, .cons h' r, h => .cons h' (Reps.set n r h)
theorem Reps.reverse {vs : List V} {ds : List D} (r : Reps K H vs ds) : Reps K H vs.reverse ds.reverse := by
  induction vs generalizing ds with
  | nil => cases r; exact .nil
  | cons v vs ih =>
    cases r with
    | cons h r =>
      rw [List.reverse_cons, List.reverse_cons]
      exact (ih r).append (.cons h .nil)
theorem Reps.none_of {vs : List V} {ds : List D} {i : Nat} (r : Reps K H vs ds) (e : ds[i]? = none) : vs[i]? = none := by
  have h1 := r.length
  have h2 : ds.length ≤ i := List.getElem?_eq_none_iff.mp e
  exact List.getElem?_eq_none_iff.mpr (by omega)
theorem reps_ints : ∀ ns : List Int, Reps K H (ns.map V.int) (ns.map D.int)
  | [] => .nil
  | n :: r => .cons (.int n) (reps_ints r)
theorem of_ints : ∀ {ns : List Int} {vs : List V}, Reps K H vs (ns.map D.int) → vs = ns.map V.int
  | [], _, h => by cases h; rfl
  | n :: r, _, h => by
    cases h with
    | cons a b => cases a; rw [of_ints b]; rfl
theorem of_bls : ∀ {ns : List Bool} {vs : List V}, Reps K H vs (ns.map D.bl) → vs = ns.map V.bl
  | [], _, h => by cases h; rfl
  | n :: r, _, h => by
    cases h with
    | cons a b => cases a; rw [of_bls b]; rfl
theorem of_strs : ∀ {ns : List (List Nat)} {vs : List V}, Reps K H vs (ns.map D.str) → vs = (ns.map sOf).map V.str
  | [], _, h => by cases h; rfl
  | n :: r, _, h => by
    cases h with
    | cons a b => cases a; rw [of_strs b]; rfl
end

/-! ### owned cells -/
inductive OC where
  | lst (xs : List D)
  | pr (φ : List D → Prop)
  | ins (C : Addr) (fs : List (Str × D))
  | dK (kvs : List (Key × D))
  | dT (kvs : List (List Key × D))
abbrev Ow := List (Addr × OC)
abbrev Ga := List (Option D)
def ads (O : Ow) : List Addr := O.map (·.1)
def hide (A : List Addr) (H : Hp) : Hp := fun a => if a ∈ A then none else H a
theorem hide_some {A : List Addr} {H : Hp} {a : Addr} {o : HO} (h : hide A H a = some o) : a ∉ A ∧ H a = some o := by
  unfold hide at h
  by_cases q : a ∈ A
  · rw [if_pos q] at h; cases h
  · rw [if_neg q] at h; exact ⟨q, h⟩
theorem hide_of {A : List Addr} {H : Hp} {a : Addr} {o : HO} (q : a ∉ A) (h : H a = some o) : hide A H a = some o := by
  unfold hide
  rw [if_neg q]; exact h
theorem hide_ne {A : List Addr} {H : Hp} {a : Addr} (q : a ∉ A) : hide A H a = H a := by
  unfold hide
  rw [if_neg q]
theorem hide_in {A : List Addr} {H : Hp} {a : Addr} (q : a ∈ A) : hide A H a = none := by
  unfold hide
  rw [if_pos q]
theorem hide_nil (H : Hp) : hide [] H = H := by
  funext a
  unfold hide
  simp
/-- the stable part never tells more than the heap -/
theorem hide_same (A : List Addr) (H : Hp) : Same (hide A H) H := fun a o h => (hide_some h).2

/-- what stands at a, S the stable part -/
def OwOk (K : PySem.W.Frag) (S H : Hp) (a : Addr) : OC → Prop
  | .lst ds => ∃ xs, H a = some (.lst xs) ∧ Reps K S xs ds
  | .pr φ => ∃ xs ds, H a = some (.lst xs) ∧ Reps K S xs ds ∧ φ ds
  | .ins C gs => ∃ dx fs, H a = some (.ins C dx fs) ∧ RepF K S fs gs
  | .dK kvs => ∃ ks, H a = some (.dK ks) ∧ Paired (fun (p : Key × V) (q : Key × D) => p.1 = q.1 ∧ Rep K S p.2 q.2) ks kvs
  | .dT kvs => ∃ ks, H a = some (.dT ks) ∧ Paired (fun (p : List Key × V) (q : List Key × D) => p.1 = q.1 ∧ Rep K S p.2 q.2) ks kvs
theorem OwOk.mono {K : PySem.W.Frag} {S S' H H' : Hp} {a : Addr} {c : OC} (h : OwOk K S H a c) (e : Same S S') (ha : H' a = H a) : OwOk K S' H' a c := by
  cases c with
  | lst ds => obtain ⟨xs, h1, h2⟩ := h; exact ⟨xs, ha.trans h1, h2.mono e⟩
  | pr φ => obtain ⟨xs, ds, h1, h2, h3⟩ := h; exact ⟨xs, ds, ha.trans h1, h2.mono e, h3⟩
  | ins C gs => obtain ⟨dx, fs, h1, h2⟩ := h; exact ⟨dx, fs, ha.trans h1, h2.mono e⟩
  | dK kvs => obtain ⟨ks, h1, h2⟩ := h; exact ⟨ks, ha.trans h1, Paired.mapP h2 fun _ _ z => ⟨z.1, z.2.mono e⟩⟩
  | dT kvs => obtain ⟨ks, h1, h2⟩ := h; exact ⟨ks, ha.trans h1, Paired.mapP h2 fun _ _ z => ⟨z.1, z.2.mono e⟩⟩
theorem OwOk.there {K : PySem.W.Frag} {S H : Hp} {a : Addr} {c : OC} (h : OwOk K S H a c) : ∃ o, H a = some o := by
  cases c with
  | lst ds => obtain ⟨xs, h1, h2⟩ := h; exact ⟨_, h1⟩
  | pr φ => obtain ⟨xs, ds, h1, h2, h3⟩ := h; exact ⟨_, h1⟩
  | ins C gs => obtain ⟨dx, fs, h1, h2⟩ := h; exact ⟨_, h1⟩
  | dK kvs => obtain ⟨ks, h1, h2⟩ := h; exact ⟨_, h1⟩
  | dT kvs => obtain ⟨ks, h1, h2⟩ := h; exact ⟨_, h1⟩

/-- what a def's body stands on: the heap at the entry, what of it is owned, what is foreign -/
structure Fx where
  B : Hp
  A : List Addr
  Z : List Addr
/-- the stable part: neither owned nor foreign -/
def stb (F : Fx) (O : Ow) (H : Hp) : Hp := hide (F.Z ++ ads O) H
theorem stb_some {F : Fx} {O : Ow} {H : Hp} {a : Addr} {o : HO} (h : stb F O H a = some o) : a ∉ F.Z ∧ a ∉ ads O ∧ H a = some o := by
  obtain ⟨h1, h2⟩ := hide_some h
  rw [List.mem_append, not_or] at h1
  exact ⟨h1.1, h1.2, h2⟩
theorem stb_of {F : Fx} {O : Ow} {H : Hp} {a : Addr} {o : HO} (hz : a ∉ F.Z) (hn : a ∉ ads O) (h : H a = some o) : stb F O H a = some o :=
  hide_of (by rw [List.mem_append, not_or]; exact ⟨hz, hn⟩) h
theorem stb_same {F : Fx} {O : Ow} {H : Hp} : Same (stb F O H) H := fun a o h => (stb_some h).2.2
theorem ss {F : Fx} {O O' : Ow} {H H' : Hp} (e : Same (hide (ads O) H) (hide (ads O') H')) : Same (stb F O H) (stb F O' H') := fun a o h => by
  obtain ⟨h1, h2, h3⟩ := stb_some h
  obtain ⟨h4, h5⟩ := hide_some (e a o (hide_of h2 h3))
  exact stb_of h1 h4 h5
/-- what is foreign stood at the entry -/
def Fx.Ok (F : Fx) : Prop := ∀ z, z ∈ F.Z → z ∉ F.A ∧ ∃ o, F.B z = some o
structure OwsOk (K : PySem.W.Frag) (F : Fx) (O : Ow) (H : Hp) : Prop where
  nd : (ads O).Nodup
  ow : ∀ a c, (a, c) ∈ O → OwOk K (stb F O H) H a c
theorem OwsOk.nil {K : PySem.W.Frag} {F : Fx} {H : Hp} : OwsOk K F [] H := ⟨List.nodup_nil, fun _ _ h => nomatch h⟩

/-- the assertion: B the heap at the entry, A what of it is owned -/
structure Hd (K : PySem.W.Frag) (F : Fx) (Γ : Ga) (O : Ow) (σ : L2.St) (H : Hp) : Prop where
  len : Γ.length = σ.length
  sl : ∀ (i : Nat) (d : D), Γ[i]? = some (some d) → ∃ v, σ[i]? = some (some v) ∧ Rep K (stb F O H) v d
  os : OwsOk K F O H
  fr : Same (hide F.A F.B) (hide (ads O) H)
  zf : F.Ok

abbrev QD := D → Ow → Prop
/-- an expression's reading, by data -/
def tE (K : PySem.W.Frag) (F : Fx) (Γ : Ga) (O : Ow) (Q : QD) : TE := fun σ H R => Hd K F Γ O σ H ∧
  ∀ d O' v H', Q d O' → Hd K F Γ O' σ H' → Same (hide (ads O) H) (hide (ads O') H') → Rep K (stb F O' H') v d → R v H'
def tT (K : PySem.W.Frag) (F : Fx) (Γ : Ga) (O : Ow) (Q : Bool → Ow → Prop) : TT := fun σ H R => Hd K F Γ O σ H ∧
  ∀ b O' H', Q b O' → Hd K F Γ O' σ H' → Same (hide (ads O) H) (hide (ads O') H') → R b H'
def tA (K : PySem.W.Frag) (F : Fx) (Γ : Ga) (O : Ow) (Q : List D → Ow → Prop) : TA := fun σ H R => Hd K F Γ O σ H ∧
  ∀ ds O' vs H', Q ds O' → Hd K F Γ O' σ H' → Same (hide (ads O) H) (hide (ads O') H') → Reps K (stb F O' H') vs ds → R vs H'
/-- what is wanted behind statements -/
structure Out where
  nx : Ga → Ow → Prop
  rt : QD
  bk : Ga → Ow → Prop := fun _ _ => False
  ct : Ga → Ow → Prop := fun _ _ => False
/-- a return's end: the slots are forgotten -/
structure Rt (K : PySem.W.Frag) (F : Fx) (O : Ow) (H : Hp) : Prop where
  os : OwsOk K F O H
  fr : Same (hide F.A F.B) (hide (ads O) H)
  zf : F.Ok
theorem Hd.rt {K : PySem.W.Frag} {F : Fx} {Γ : Ga} {O : Ow} {σ : L2.St} {H : Hp} (h : Hd K F Γ O σ H) : Rt K F O H := ⟨h.os, h.fr, h.zf⟩
structure Wt (K : PySem.W.Frag) (F : Fx) (Q : Out) (O : Ow) (H : Hp) (D : Ends) : Prop where
  nx : ∀ Γ O' σ H', Q.nx Γ O' → Hd K F Γ O' σ H' → Same (hide (ads O) H) (hide (ads O') H') → D.nx σ H'
  rt : ∀ d O' v H', Q.rt d O' → Rt K F O' H' → Same (hide (ads O) H) (hide (ads O') H') → Rep K (stb F O' H') v d → D.rt v H'
  bk : ∀ Γ O' σ H', Q.bk Γ O' → Hd K F Γ O' σ H' → Same (hide (ads O) H) (hide (ads O') H') → D.bk σ H'
  ct : ∀ Γ O' σ H', Q.ct Γ O' → Hd K F Γ O' σ H' → Same (hide (ads O) H) (hide (ads O') H') → D.ct σ H'
def tS (K : PySem.W.Frag) (F : Fx) (Γ : Ga) (O : Ow) (Q : Out) : TS := fun E σ H => Hd K F Γ O σ H ∧ Wt K F Q O H E

def WE (X : Cx) (F : Fx) (e : Expr) (Γ : Ga) (O : Ow) (Q : QD) : Prop := PE X e (tE X.K F Γ O Q)
def WT (X : Cx) (F : Fx) (e : Expr) (Γ : Ga) (O : Ow) (Q : Bool → Ow → Prop) : Prop := PT X e (tT X.K F Γ O Q)
def WA (X : Cx) (F : Fx) (es : List Expr) (Γ : Ga) (O : Ow) (Q : List D → Ow → Prop) : Prop := PA X es (tA X.K F Γ O Q)
def WS (X : Cx) (F : Fx) (st : Stmt) (Γ : Ga) (O : Ow) (Q : Out) : Prop := PS X st (tS X.K F Γ O Q)
def WB (X : Cx) (F : Fx) (sts : List Stmt) (Γ : Ga) (O : Ow) (Q : Out) : Prop := PSs X sts (tS X.K F Γ O Q)

/-! ### general -/
section
variable {X : Cx} {e : Expr} {es : List Expr} {st : Stmt} {sts : List Stmt}
theorem pe_weak {t u : TE} (h : PE X e t) (k : ∀ σ H R, u σ H R → t σ H R) : PE X e u := ⟨fun pins s σ H Q I q => h.run pins s σ H Q I (k _ _ _ q)⟩
theorem pt_weak {t u : TT} (h : PT X e t) (k : ∀ σ H R, u σ H R → t σ H R) : PT X e u := ⟨fun pins s σ H Q I q => h.run pins s σ H Q I (k _ _ _ q)⟩
theorem pa_weak {t u : TA} (h : PA X es t) (k : ∀ σ H R, u σ H R → t σ H R) : PA X es u := ⟨fun pos pins s σ H Q I q => h.run pos pins s σ H Q I (k _ _ _ q)⟩
theorem ps_weak {t u : TS} (h : PS X st t) (k : ∀ E σ H, u E σ H → t E σ H) : PS X st u := ⟨fun pins s σ H E I q => h.run pins s σ H E I (k _ _ _ q)⟩
theorem pss_weak {t u : TS} (h : PSs X sts t) (k : ∀ E σ H, u E σ H → t E σ H) : PSs X sts u := ⟨fun pins s σ H E I q => h.run pins s σ H E I (k _ _ _ q)⟩
/-- any of the readings that hold of e -/
def tAnyE (X : Cx) (e : Expr) : TE := fun σ H R => ∃ t, PE X e t ∧ t σ H R
theorem pe_any : PE X e (tAnyE X e) := ⟨fun pins s σ H Q I ⟨t, p, q⟩ => p.run pins s σ H Q I q⟩
def tAnyT (X : Cx) (e : Expr) : TT := fun σ H R => ∃ t, PT X e t ∧ t σ H R
theorem pt_any : PT X e (tAnyT X e) := ⟨fun pins s σ H Q I ⟨t, p, q⟩ => p.run pins s σ H Q I q⟩
def tAnyA (X : Cx) (es : List Expr) : TA := fun σ H R => ∃ t, PA X es t ∧ t σ H R
theorem pa_any : PA X es (tAnyA X es) := ⟨fun pos pins s σ H Q I ⟨t, p, q⟩ => p.run pos pins s σ H Q I q⟩
def tAnyS (X : Cx) (sts : List Stmt) : TS := fun E σ H => ∃ t, PSs X sts t ∧ t E σ H
theorem pss_any : PSs X sts (tAnyS X sts) := ⟨fun pins s σ H E I ⟨t, p, q⟩ => p.run pins s σ H E I q⟩
end
section
variable {X : Cx} {F : Fx} {Γ : Ga} {O : Ow} {e : Expr} {es : List Expr} {Q : QD}
theorem we_imp {Q' : QD} (h : WE X F e Γ O Q') (k : ∀ d O', Q' d O' → Q d O') : WE X F e Γ O Q := pe_weak h fun σ H R ⟨h1, h2⟩ => ⟨h1, fun d O' v H' q => h2 d O' v H' (k d O' q)⟩
theorem wt_imp {Q Q' : Bool → Ow → Prop} (h : WT X F e Γ O Q') (k : ∀ d O', Q' d O' → Q d O') : WT X F e Γ O Q := pt_weak h fun σ H R ⟨h1, h2⟩ => ⟨h1, fun d O' H' q => h2 d O' H' (k d O' q)⟩
/-- from a reading -/
theorem we_of {t : TE} (h : PE X e t) (k : ∀ σ H R, Hd X.K F Γ O σ H → (∀ d O' v H', Q d O' → Hd X.K F Γ O' σ H' → Same (hide (ads O) H) (hide (ads O') H') → Rep X.K (stb F O' H') v d → R v H') → t σ H R) : WE X F e Γ O Q :=
  pe_weak h fun σ H R ⟨h1, h2⟩ => k σ H R h1 h2
theorem we_run {σ : L2.St} {H : Hp} {R : VK} (h : WE X F e Γ O Q) (h1 : Hd X.K F Γ O σ H) (k : ∀ d O' v H', Q d O' → Hd X.K F Γ O' σ H' → Same (hide (ads O) H) (hide (ads O') H') → Rep X.K (stb F O' H') v d → R v H') : tAnyE X e σ H R :=
  ⟨_, h, h1, k⟩
theorem wt_run {Q : Bool → Ow → Prop} {σ : L2.St} {H : Hp} {R : Bool → Hp → Prop} (h : WT X F e Γ O Q) (h1 : Hd X.K F Γ O σ H) (k : ∀ b O' H', Q b O' → Hd X.K F Γ O' σ H' → Same (hide (ads O) H) (hide (ads O') H') → R b H') : tAnyT X e σ H R :=
  ⟨_, h, h1, k⟩
theorem wa_run {Q : List D → Ow → Prop} {σ : L2.St} {H : Hp} {R : List V → Hp → Prop} (h : WA X F es Γ O Q) (h1 : Hd X.K F Γ O σ H) (k : ∀ ds O' vs H', Q ds O' → Hd X.K F Γ O' σ H' → Same (hide (ads O) H) (hide (ads O') H') → Reps X.K (stb F O' H') vs ds → R vs H') : tAnyA X es σ H R :=
  ⟨_, h, h1, k⟩
theorem same_refl {H : Hp} : Same H H := Same.refl H
end
end Dl

namespace Dl
open PySem PySem.Spec PyProof.Rows L2

/-! ### equality of plain data -/
mutual
def toPy : D → PyData
  | .non => .none
  | .bl b => .bool b
  | .int i => .int i
  | .str l => .str (sOf l)
  | .lst xs => .list (toPys xs)
  | .tup xs => .tuple (toPys xs)
  | .ty _ => .none
  | .rl _ => .none
  | .ins _ _ => .none
  | .at _ => .none
def toPys : List D → List PyData
  | [] => []
  | x :: r => toPy x :: toPys r
end
mutual
/-- pure data, at most so deep -/
def okN : Nat → D → Bool
  | _, .non => true
  | _, .bl _ => true
  | _, .int _ => true
  | _, .str l => l.all fun c => decide (c < 1114112)
  | 0, .lst _ => false
  | n + 1, .lst xs => okNs n xs
  | 0, .tup _ => false
  | n + 1, .tup xs => okNs n xs
  | _, .ty _ => false
  | _, .rl _ => false
  | _, .ins _ _ => false
  | _, .at _ => false
def okNs : Nat → List D → Bool
  | _, [] => true
  | n, x :: r => okN n x && okNs n r
end
theorem okNs_iff {n : Nat} : ∀ {xs : List D}, okNs n xs = true ↔ ∀ x ∈ xs, okN n x = true
  | [] => by simp [okNs]
  | x :: r => by
    rw [okNs, Bool.and_eq_true, okNs_iff (xs := r)]
    simp
theorem toPys_map : ∀ xs : List D, toPys xs = xs.map toPy
  | [] => rfl
  | x :: r => by rw [toPys, toPys_map r]; rfl
mutual
theorem okN_dp {K : PySem.W.Frag} {H : Hp} : ∀ {d : D} {n : Nat} {v : V}, okN n d = true → Rep K H v d → Dp K H v (toPy d)
  | .non, _, _, _, h => by cases h; exact .non
  | .bl b, _, _, _, h => by cases h; exact .bl b
  | .int i, _, _, _, h => by cases h; exact .int i
  | .str l, _, _, _, h => by cases h; exact .str _
  | .lst xs, 0, _, e, _ => by simp [okN] at e
  | .lst xs, n + 1, _, e, h => by
    cases h with
    | lst a b => rw [toPy]; exact .lst (SqL.of a) (okNs_dp (n := n) (by simpa [okN] using e) b)
  | .tup xs, 0, _, e, _ => by simp [okN] at e
  | .tup xs, n + 1, _, e, h => by
    cases h with
    | tup a b => rw [toPy]; exact .tup a.sq (okNs_dp (n := n) (by simpa [okN] using e) b)
  | .ty _, _, _, e, _ => by simp [okN] at e
  | .rl _, _, _, e, _ => by simp [okN] at e
  | .ins _ _, _, _, e, _ => by simp [okN] at e
  | .at _, _, _, e, _ => by simp [okN] at e
theorem okNs_dp {K : PySem.W.Frag} {H : Hp} : ∀ {ds : List D} {n : Nat} {vs : List V}, okNs n ds = true → Reps K H vs ds → DpAll K H vs (toPys ds)
  | [], _, _, _, h => by cases h; exact .nil
  | d :: r, n, _, e, h => by
    cases h with
    | cons a b =>
      rw [okNs, Bool.and_eq_true] at e
      rw [toPys]
      exact .cons (okN_dp e.1 a) (okNs_dp e.2 b)
end
mutual
theorem okN_lay : ∀ {d : D} {n : Nat}, okN n d = true → (toPy d).canLay0 = true
  | .non, _, _ => rfl
  | .bl b, _, _ => rfl
  | .int i, _, _ => rfl
  | .str l, n, e => by
    have e' : (l.all fun c => decide (c < 1114112)) = true := by cases n <;> exact e
    show PyData.strOk (sOf l) = true
    unfold PyData.strOk
    simpa using e'
  | .lst xs, 0, e => by simp [okN] at e
  | .lst xs, n + 1, e => by
    rw [toPy, PyData.canLay0]
    exact okNs_lay (n := n) (by simpa [okN] using e)
  | .tup xs, 0, e => by simp [okN] at e
  | .tup xs, n + 1, e => by
    rw [toPy, PyData.canLay0]
    exact okNs_lay (n := n) (by simpa [okN] using e)
  | .ty _, _, e => by simp [okN] at e
  | .rl _, _, e => by simp [okN] at e
  | .ins _ _, _, e => by simp [okN] at e
  | .at _, _, e => by simp [okN] at e
theorem okNs_lay : ∀ {ds : List D} {n : Nat}, okNs n ds = true → PyData.canLayAll0 (toPys ds) = true
  | [], _, _ => rfl
  | d :: r, n, e => by
    rw [okNs, Bool.and_eq_true] at e
    rw [toPys, PyData.canLayAll0, Bool.and_eq_true]
    exact ⟨okN_lay e.1, okNs_lay e.2⟩
end
mutual
theorem okN_depth : ∀ {d : D} {n : Nat}, okN n d = true → (toPy d).depth ≤ n
  | .non, _, _ => Nat.zero_le _
  | .bl b, _, _ => Nat.zero_le _
  | .int i, _, _ => Nat.zero_le _
  | .str l, _, _ => Nat.zero_le _
  | .lst xs, 0, e => by simp [okN] at e
  | .lst xs, n + 1, e => by
    rw [toPy, PyData.depth]
    exact Nat.succ_le_succ (okNs_depth (n := n) (by simpa [okN] using e))
  | .tup xs, 0, e => by simp [okN] at e
  | .tup xs, n + 1, e => by
    rw [toPy, PyData.depth]
    exact Nat.succ_le_succ (okNs_depth (n := n) (by simpa [okN] using e))
  | .ty _, _, e => by simp [okN] at e
  | .rl _, _, e => by simp [okN] at e
  | .ins _ _, _, e => by simp [okN] at e
  | .at _, _, e => by simp [okN] at e
theorem okNs_depth : ∀ {ds : List D} {n : Nat}, okNs n ds = true → PyData.depthAll (toPys ds) ≤ n
  | [], _, _ => Nat.zero_le _
  | d :: r, n, e => by
    rw [okNs, Bool.and_eq_true] at e
    rw [toPys, PyData.depthAll]
    exact Nat.max_le.mpr ⟨okN_depth e.1, okNs_depth e.2⟩
end
theorem okN_shaped {d : D} {n : Nat} (h : okN n d = true) (hn : n ≤ 64) : SeqAt.shaped (toPy d) = true := by
  unfold SeqAt.shaped
  rw [okN_lay h, Bool.true_and]
  exact decide_eq_true (Nat.le_trans (okN_depth h) hn)
/-- == of data -/
def eqD (d e : D) : Bool := PyData.eqv (toPy d) (toPy e)
def eqDs (xs ys : List D) : Bool := PyData.eqvAll (toPys xs) (toPys ys)
theorem eqD_int (i j : Int) : eqD (.int i) (.int j) = (i == j) := rfl
theorem eqD_bl (i j : Bool) : eqD (.bl i) (.bl j) = (i == j) := rfl
theorem eqD_non : eqD .non .non = true := rfl
theorem sOf_beq (x y : List Nat) : (sOf x == sOf y) = (x == y) := by
  rw [Bool.eq_iff_iff]
  simp [sOf]
theorem eqD_str (x y : List Nat) : eqD (.str x) (.str y) = (x == y) := sOf_beq x y
theorem eqD_lst (xs ys : List D) : eqD (.lst xs) (.lst ys) = eqDs xs ys := by unfold eqD eqDs; rw [toPy, toPy, PyData.eqv]
theorem eqD_tup (xs ys : List D) : eqD (.tup xs) (.tup ys) = eqDs xs ys := by unfold eqD eqDs; rw [toPy, toPy, PyData.eqv]
theorem eqDs_nil : eqDs [] [] = true := rfl
theorem eqDs_cons (x y : D) (xs ys : List D) : eqDs (x :: xs) (y :: ys) = (eqD x y && eqDs xs ys) := by
  unfold eqD eqDs
  rw [toPys, toPys, PyData.eqvAll]
theorem eqDs_nc (y : D) (ys : List D) : eqDs [] (y :: ys) = false := by
  unfold eqDs
  rw [toPys, toPys, PyData.eqvAll]
theorem eqDs_cn (y : D) (ys : List D) : eqDs (y :: ys) [] = false := by
  unfold eqDs
  rw [toPys, toPys, PyData.eqvAll]
theorem eqD_refl {d : D} {n : Nat} (h : okN n d = true) : eqD d d = true := SeqAt.eqv_refl _ (okN_lay h)
theorem eqDs_refl {xs : List D} {n : Nat} (h : okNs n xs = true) : eqDs xs xs = true := SeqAt.eqvAll_refl _ (okNs_lay h)
theorem eqDs_ints : ∀ xs ys : List Int, eqDs (xs.map D.int) (ys.map D.int) = (xs == ys)
  | [], [] => rfl
  | [], y :: ys => eqDs_nc _ _
  | x :: xs, [] => eqDs_cn _ _
  | x :: xs, y :: ys => by
    rw [List.map_cons, List.map_cons, eqDs_cons, eqD_int, eqDs_ints xs ys]
    rfl
theorem eqDs_strs : ∀ xs ys : List (List Nat), eqDs (xs.map D.str) (ys.map D.str) = (xs == ys)
  | [], [] => rfl
  | [], y :: ys => eqDs_nc _ _
  | x :: xs, [] => eqDs_cn _ _
  | x :: xs, y :: ys => by
    rw [List.map_cons, List.map_cons, eqDs_cons, eqD_str, eqDs_strs xs ys]
    rfl
theorem okNs_ints (n : Nat) (xs : List Int) : okNs n (xs.map D.int) = true := okNs_iff.mpr fun x hx => by
  obtain ⟨i, _, rfl⟩ := List.mem_map.mp hx
  cases n <;> rfl
theorem okN_str {n : Nat} {l : List Nat} (h : ∀ c ∈ l, c < 1114112) : okN n (.str l) = true := by
  have e : (l.all fun c => decide (c < 1114112)) = true := List.all_eq_true.mpr fun c hc => decide_eq_true (h c hc)
  cases n <;> exact e
theorem okNs_strs (n : Nat) (xs : List (List Nat)) (h : ∀ l ∈ xs, ∀ c ∈ l, c < 1114112) : okNs n (xs.map D.str) = true := okNs_iff.mpr fun x hx => by
  obtain ⟨i, hi, rfl⟩ := List.mem_map.mp hx
  exact okN_str (h i hi)
theorem okNs_bls (n : Nat) (xs : List Bool) : okNs n (xs.map D.bl) = true := okNs_iff.mpr fun x hx => by
  obtain ⟨i, _, rfl⟩ := List.mem_map.mp hx
  cases n <;> rfl

def isNon : D → Bool
  | .non => true
  | _ => false
/-! ### operations by values -/
section
variable {X : Cx} {F : Fx} {Γ : Ga} {O : Ow} {Q : QD} {r : R2} {x y : D}
def OpD (X : Cx) (F : Fx) (r : R2) (x y : D) (Γ : Ga) (O : Ow) (Q : QD) : Prop :=
  ∀ (σ : L2.St) (H : Hp) (v u : V) (R : VK), Hd X.K F Γ O σ H → Rep X.K (stb F O H) v x → Rep X.K (stb F O H) u y →
    (∀ d O' w H', Q d O' → Hd X.K F Γ O' σ H' → Same (hide (ads O) H) (hide (ads O') H') → Rep X.K (stb F O' H') w d → R w H') → r v u H R
def UnD (X : Cx) (F : Fx) (r : V → Hp → VK → Prop) (x : D) (Γ : Ga) (O : Ow) (Q : QD) : Prop :=
  ∀ (σ : L2.St) (H : Hp) (v : V) (R : VK), Hd X.K F Γ O σ H → Rep X.K (stb F O H) v x →
    (∀ d O' w H', Q d O' → Hd X.K F Γ O' σ H' → Same (hide (ads O) H) (hide (ads O') H') → Rep X.K (stb F O' H') w d → R w H') → r v H R
def CaD (X : Cx) (F : Fx) (r : List V → Hp → VK → Prop) (xs : List D) (Γ : Ga) (O : Ow) (Q : QD) : Prop :=
  ∀ (σ : L2.St) (H : Hp) (vs : List V) (R : VK), Hd X.K F Γ O σ H → Reps X.K (stb F O H) vs xs →
    (∀ d O' w H', Q d O' → Hd X.K F Γ O' σ H' → Same (hide (ads O) H) (hide (ads O') H') → Rep X.K (stb F O' H') w d → R w H') → r vs H R
variable {a b c whole : Expr} {es : List Expr}
theorem we_bin (hp : ∀ {ta tb : TE}, PE X a ta → PE X b tb → PE X whole (tOp r ta tb))
    (h : WE X F a Γ O fun x O1 => WE X F b Γ O1 fun y O2 => OpD X F r x y Γ O2 Q) : WE X F whole Γ O Q :=
  we_of (hp h (pe_any (e := b))) fun σ H R hd k => ⟨hd, fun d1 O1 v1 H1 q1 hd1 s1 r1 => we_run q1 hd1 fun d2 O2 v2 H2 q2 hd2 s2 r2 =>
    q2 σ H2 v1 v2 R hd2 (r1.mono (ss s2)) r2 fun d O' w H' q hd' s' r' => k d O' w H' q hd' (s1.trans (s2.trans s')) r'⟩
theorem we_una {r : V → Hp → VK → Prop} (hp : ∀ {ta : TE}, PE X a ta → PE X whole (tUn r ta))
    (h : WE X F a Γ O fun x O1 => UnD X F r x Γ O1 Q) : WE X F whole Γ O Q :=
  we_of (hp h) fun σ H R hd k => ⟨hd, fun d1 O1 v1 H1 q1 hd1 s1 r1 =>
    q1 σ H1 v1 R hd1 r1 fun d O' w H' q hd' s' r' => k d O' w H' q hd' (s1.trans s') r'⟩
theorem we_cal {r : List V → Hp → VK → Prop} (hp : ∀ {ta : TA}, PA X es ta → PE X whole (tCB r ta))
    (h : WA X F es Γ O fun xs O1 => CaD X F r xs Γ O1 Q) : WE X F whole Γ O Q :=
  we_of (hp h) fun σ H R hd k => ⟨hd, fun d1 O1 v1 H1 q1 hd1 s1 r1 =>
    q1 σ H1 v1 R hd1 r1 fun d O' w H' q hd' s' r' => k d O' w H' q hd' (s1.trans s') r'⟩
theorem wa_nil {Q : List D → Ow → Prop} (q : Q [] O) : WA X F [] Γ O Q := pa_weak pa_nil fun σ H R ⟨hd, k⟩ => k [] O [] H q hd same_refl .nil
theorem wa_cons {Q : List D → Ow → Prop} (h : WE X F a Γ O fun x O1 => WA X F es Γ O1 fun xs O2 => Q (x :: xs) O2) (hs : starEach (a :: es) X.env = (false, eval a X.env) :: starEach es X.env := by rfl) : WA X F (a :: es) Γ O Q :=
  pa_weak (pa_cons h (pa_any (es := es)) hs) fun σ H R ⟨hd, k⟩ => ⟨hd, fun d1 O1 v1 H1 q1 hd1 s1 r1 => wa_run q1 hd1 fun d2 O2 v2 H2 q2 hd2 s2 r2 =>
    k _ O2 _ H2 q2 hd2 (s1.trans s2) (.cons (r1.mono (ss s2)) r2)⟩

/-! ### names, constants -/
variable {pos : Pos}
theorem we_var (i : Nat) {n : Str} {d : D} (hΓ : Γ[i]? = some (some d)) (q : Q d O) (hN : X.N[i]? = some n := by rfl) (hv : Vis X.env.scope n := by first | exact Or.inl rfl | exact Or.inr (Or.inl rfl) | exact Or.inr (Or.inr rfl))
    (hd : (n == ("__debug__" : Str)) = false := by decide) (hcd : (n == ("__classdict__" : Str)) = false := by decide) : WE X F (.Name n pos) Γ O Q :=
  we_of (pe_var hN hv hd hcd) fun σ H R h k => by
    obtain ⟨v, e, r⟩ := h.sl i d hΓ
    exact ⟨v, e, k d O v H q h same_refl r⟩
theorem we_const {e : Expr} {v : V} {d : D} (hp : PE X e (tC v)) (hr : ∀ K H, Rep K H v d) (q : Q d O) : WE X F e Γ O Q :=
  we_of hp fun σ H R h k => k d O v H q h same_refl (hr _ _)
theorem we_int {i j} (q : Q (.int i) O) : WE X F (.Constant (.int i) j pos) Γ O Q := we_const pe_int (fun _ _ => .int i) q
theorem we_bl {i j} (q : Q (.bl i) O) : WE X F (.Constant (.bool i) j pos) Γ O Q := we_const pe_bl (fun _ _ => .bl i) q
theorem we_non {j} (q : Q .non O) : WE X F (.Constant .none j pos) Γ O Q := we_const pe_non (fun _ _ => .non) q
theorem sOf_cps (z : Str) : sOf z.cps.toList = z := by
  cases z
  simp [sOf]
theorem rep_str {K : PySem.W.Frag} {H : Hp} {z : Str} {l : List Nat} (h : z.cps.toList = l) : Rep K H (.str z) (.str l) := by
  subst h
  have := Rep.str (K := K) (H := H) z.cps.toList
  rw [sOf_cps] at this
  exact this
theorem we_str (l : List Nat) {z : Str} {j} (q : Q (.str l) O) (h : z.cps.toList = l := by decide +kernel) : WE X F (.Constant (.str z) j pos) Γ O Q := we_const pe_str (fun _ _ => rep_str h) q
theorem we_glob {n : Str} {v : V} {u : Value} {d : D} (hg : Gl X n) (hm : X.mg n = some u) (r : RelV v u) (hr : ∀ K H, Rep K H v d) (q : Q d O) (hd : (n == ("__debug__" : Str)) = false := by decide) : WE X F (.Name n pos) Γ O Q :=
  we_const (pe_glob hg hm r hd) hr q
theorem we_blt {n : Str} {v : V} {u : Value} {d : D} (hg : Gl X n) (hm : X.mg n = none) (hv : bootBuiltins n = some u) (r : RelV v u) (hr : ∀ K H, Rep K H v d) (q : Q d O) (hn : n ≠ "__name__" := by decide) (hd : (n == ("__debug__" : Str)) = false := by decide) : WE X F (.Name n pos) Γ O Q :=
  we_const (pe_bltn hg hm hv r hn hd) hr q

/-! ### numbers -/
theorem opd_I {C : Int → Int → Prop} {g : Int → Int → Int} {i j : Int} (hc : C i j) (q : Q (.int (g i j)) O) : OpD X F (rI C fun i j => .int (g i j)) (.int i) (.int j) Γ O Q :=
  fun σ H v u R hd hv hu k => by
    cases hv; cases hu
    exact ⟨i, j, rfl, rfl, hc, k _ O _ H q hd same_refl (.int _)⟩
theorem opd_I0 {g : Int → Int → Int} {i j : Int} (q : Q (.int (g i j)) O) : OpD X F (rI0 fun i j => .int (g i j)) (.int i) (.int j) Γ O Q :=
  fun σ H v u R hd hv hu k => by
    cases hv; cases hu
    exact ⟨i, j, rfl, rfl, k _ O _ H q hd same_refl (.int _)⟩
theorem opd_B0 {g : Int → Int → Bool} {i j : Int} (q : Q (.bl (g i j)) O) : OpD X F (rI0 fun i j => .bl (g i j)) (.int i) (.int j) Γ O Q :=
  fun σ H v u R hd hv hu k => by
    cases hv; cases hu
    exact ⟨i, j, rfl, rfl, k _ O _ H q hd same_refl (.bl _)⟩
theorem we_add (h : WE X F a Γ O fun x O1 => WE X F b Γ O1 fun y O2 => ∃ i j, x = .int i ∧ y = .int j ∧ Q (.int (i + j)) O2) : WE X F (.BinOp a .Add b pos) Γ O Q :=
  we_bin (pe_op op_add) (we_imp h fun x O1 h => we_imp h fun y O2 ⟨i, j, e1, e2, q⟩ => by subst e1; subst e2; exact opd_I0 (g := fun i j => i + j) q)
theorem we_sub (h : WE X F a Γ O fun x O1 => WE X F b Γ O1 fun y O2 => ∃ i j, x = .int i ∧ y = .int j ∧ Q (.int (i - j)) O2) : WE X F (.BinOp a .Sub b pos) Γ O Q :=
  we_bin (pe_op op_sub) (we_imp h fun x O1 h => we_imp h fun y O2 ⟨i, j, e1, e2, q⟩ => by subst e1; subst e2; exact opd_I0 (g := fun i j => i - j) q)
theorem we_mul (h : WE X F a Γ O fun x O1 => WE X F b Γ O1 fun y O2 => ∃ i j, x = .int i ∧ y = .int j ∧ CMulW i j ∧ Q (.int (i * j)) O2) : WE X F (.BinOp a .Mult b pos) Γ O Q :=
  we_bin (pe_op op_mulW) (we_imp h fun x O1 h => we_imp h fun y O2 ⟨i, j, e1, e2, hc, q⟩ => by subst e1; subst e2; exact opd_I (g := fun i j => i * j) hc q)
theorem we_fdiv (h : WE X F a Γ O fun x O1 => WE X F b Γ O1 fun y O2 => ∃ i j, x = .int i ∧ y = .int j ∧ CDivW i j ∧ Q (.int (i / j)) O2) : WE X F (.BinOp a .FloorDiv b pos) Γ O Q :=
  we_bin (pe_op op_fdivW) (we_imp h fun x O1 h => we_imp h fun y O2 ⟨i, j, e1, e2, hc, q⟩ => by subst e1; subst e2; exact opd_I (g := fun i j => i / j) hc q)
theorem we_mod (h : WE X F a Γ O fun x O1 => WE X F b Γ O1 fun y O2 => ∃ i j, x = .int i ∧ y = .int j ∧ 0 < j ∧ Q (.int (i % j)) O2) : WE X F (.BinOp a .Mod b pos) Γ O Q :=
  we_bin (pe_op op_mod) (we_imp h fun x O1 h => we_imp h fun y O2 ⟨i, j, e1, e2, hc, q⟩ => by subst e1; subst e2; exact opd_I (C := fun _ j => 0 < j) (g := fun i j => i % j) hc q)
/-- a ** b of any a whose power stays within the line -/
def CPowW (i j : Int) : Prop := 0 ≤ j ∧ (Builtin.Int.intBits i : Int) * j ≤ 2 ^ 27
theorem op_powW : OpR X (binaryOp .Pow) (rI CPowW fun i j => .int (i ^ j.toNat)) := opI fun _ _ _ _ _ _ _ hc q => pow_int hc.1 hc.2 q
theorem we_pow (h : WE X F a Γ O fun x O1 => WE X F b Γ O1 fun y O2 => ∃ i j, x = .int i ∧ y = .int j ∧ CPowW i j ∧ Q (.int (i ^ j.toNat)) O2) : WE X F (.BinOp a .Pow b pos) Γ O Q :=
  we_bin (pe_op op_powW) (we_imp h fun x O1 h => we_imp h fun y O2 ⟨i, j, e1, e2, hc, q⟩ => by subst e1; subst e2; exact opd_I (g := fun i j => i ^ j.toNat) hc q)
theorem we_neg (h : WE X F a Γ O fun x O1 => ∃ i, x = .int i ∧ Q (.int (-i)) O1) : WE X F (.UnaryOp .USub a pos) Γ O Q :=
  we_una (pe_un un_neg) (we_imp h fun x O1 ⟨i, e, q⟩ => fun σ H v R hd hv k => by
    subst e; cases hv
    exact ⟨i, rfl, k _ O1 _ H q hd same_refl (.int _)⟩)

/-! ### comparisons, as values and as tests -/
theorem we_cmp {op : CmpOp} (ho : OpR X (compareOp op) r) (h : WE X F a Γ O fun x O1 => WE X F b Γ O1 fun y O2 => OpD X F r x y Γ O2 Q) (hm : behindInMarks op b = false := by first | exact nomark _ | rfl) : WE X F (.Compare a [op] [b] pos) Γ O Q :=
  we_bin (fun ha hb => pe_cmpR ho ha hb hm) h
theorem wt_of {t : TT} {e : Expr} {Q : Bool → Ow → Prop} (h : PT X e t) (k : ∀ σ H R, Hd X.K F Γ O σ H → (∀ d O' H', Q d O' → Hd X.K F Γ O' σ H' → Same (hide (ads O) H) (hide (ads O') H') → R d H') → t σ H R) : WT X F e Γ O Q :=
  pt_weak h fun σ H R ⟨h1, h2⟩ => k σ H R h1 h2
abbrev QB (Q : Bool → Ow → Prop) : QD := fun d O' => ∃ k, d = .bl k ∧ Q k O'
theorem wt_cmp {Q : Bool → Ow → Prop} {op : CmpOp} (ho : OpR X (compareOp op) r) (h : WE X F a Γ O fun x O1 => WE X F b Γ O1 fun y O2 => OpD X F r x y Γ O2 (QB Q)) (hm : behindInMarks op b = false := by first | exact nomark _ | rfl) : WT X F (.Compare a [op] [b] pos) Γ O Q :=
  wt_of (pt_cmpR ho h (pe_any (e := b)) hm) fun σ H R hd k => ⟨hd, fun d1 O1 v1 H1 q1 hd1 s1 r1 => we_run q1 hd1 fun d2 O2 v2 H2 q2 hd2 s2 r2 =>
    q2 σ H2 v1 v2 _ hd2 (r1.mono (ss s2)) r2 fun d O' w H' ⟨kk, e, q⟩ hd' s' r' => by
      subst e; cases r'
      exact ⟨kk, rfl, k _ O' H' q hd' (s1.trans (s2.trans s'))⟩⟩
/-- any expression that gives True or False, as a test -/
theorem wt_val {Q : Bool → Ow → Prop} {e : Expr} (h : WE X F e Γ O (QB Q)) (he : ∀ whole, isTrue e X.env whole = (do let v ← whole; standAt e.pos; holding [v] (truthy v)) := by intro _; rfl) : WT X F e Γ O Q :=
  wt_of (pt_val h he) fun σ H R hd k => ⟨hd, fun d O' v H' ⟨kk, e, q⟩ hd' s' r' => by
    subst e; cases r'
    exact ⟨kk, rfl, k _ O' H' q hd' s'⟩⟩
/-- x as a value: an owned list by what it holds -/
def Vw (x : D) (O : Ow) (d : D) : Prop := x = d ∨ ∃ p xs, x = .at p ∧ (p, OC.lst xs) ∈ O ∧ d = .lst xs
theorem Vw.self : Vw x O x := .inl rfl
theorem Vw.own {p : Addr} {xs : List D} (h : (p, OC.lst xs) ∈ O) : Vw (.at p) O (.lst xs) := .inr ⟨p, xs, rfl, h, rfl⟩
theorem Vw.rep {K : PySem.W.Frag} {H : Hp} {v : V} {d : D} (w : Vw x O d) (os : OwsOk K F O H) (r : Rep K (stb F O H) v x) : Rep K H v d := by
  rcases w with rfl | ⟨p, xs, rfl, h, rfl⟩
  · exact r.mono stb_same
  · obtain ⟨vs, h1, h2⟩ := os.ow p _ h
    cases r
    exact .lst h1 (h2.mono stb_same)
theorem Vw.lst {K : PySem.W.Frag} {H : Hp} {v : V} {ds : List D} (w : Vw x O (.lst ds)) (os : OwsOk K F O H) (r : Rep K (stb F O H) v x) : ∃ a xs, v = .ref a ∧ H a = some (.lst xs) ∧ Reps K (stb F O H) xs ds := by
  rcases w with rfl | ⟨p, xs, rfl, h, e⟩
  · cases r with
    | lst h1 h2 => exact ⟨_, _, rfl, (hide_some h1).2, h2⟩
  · cases e
    obtain ⟨vs, h1, h2⟩ := os.ow p _ h
    cases r
    exact ⟨_, vs, rfl, h1, h2⟩
/-- == and != of plain data -/
theorem opd_eq {n m : Nat} {x' y' : D} (wx : Vw x O x') (wy : Vw y O y') (hx : okN n x' = true) (hy : okN m y' = true) (q : Q (.bl (eqD x' y')) O) (hn : n ≤ 64 := by decide) (hm : m ≤ 64 := by decide) : OpD X F (rEqD X.K) x y Γ O Q :=
  fun σ H v u R hd hv hu k => ⟨toPy x', toPy y', okN_dp hx (wx.rep hd.os hv), okN_dp hy (wy.rep hd.os hu), okN_shaped hx hn, okN_shaped hy hm, k _ O _ H q hd same_refl (.bl _)⟩
theorem opd_ne {n m : Nat} {x' y' : D} (wx : Vw x O x') (wy : Vw y O y') (hx : okN n x' = true) (hy : okN m y' = true) (q : Q (.bl (!eqD x' y')) O) (hn : n ≤ 64 := by decide) (hm : m ≤ 64 := by decide) : OpD X F (rNeD X.K) x y Γ O Q :=
  fun σ H v u R hd hv hu k => ⟨toPy x', toPy y', okN_dp hx (wx.rep hd.os hv), okN_dp hy (wy.rep hd.os hu), okN_shaped hx hn, okN_shaped hy hm, k _ O _ H q hd same_refl (.bl _)⟩
theorem opd_isN (q : Q (.bl (isNon x)) O) : OpD X F (fun x y H Q => y = .non ∧ Q (.bl (decide (x = .non))) H) x .non Γ O Q :=
  fun σ H v u R hd hv hu k => by
    cases hu
    refine ⟨rfl, ?_⟩
    have e : decide (v = V.non) = isNon x := by
      cases hv <;> first | rfl | simp [isNon]
    rw [e]
    exact k _ O _ H q hd same_refl (.bl _)
theorem opd_notN (q : Q (.bl (!isNon x)) O) : OpD X F (fun x y H Q => y = .non ∧ Q (.bl (!decide (x = .non))) H) x .non Γ O Q :=
  fun σ H v u R hd hv hu k => by
    cases hu
    refine ⟨rfl, ?_⟩
    have e : (!decide (v = V.non)) = !isNon x := by
      cases hv <;> first | rfl | simp [isNon]
    rw [e]
    exact k _ O _ H q hd same_refl (.bl _)
/-- a sign in a text -/
theorem opd_inS {c : Nat} {l : List Nat} (q : Q (.bl (decide (c ∈ l))) O) : OpD X F (fun x y H Q => ∃ (c : Nat) (z : Str), x = .str ⟨#[c]⟩ ∧ y = .str z ∧ Q (.bl (decide (c ∈ z.cps.toList))) H) (.str [c]) (.str l) Γ O Q :=
  fun σ H v u R hd hv hu k => by
    cases hv; cases hu
    exact ⟨c, sOf l, rfl, rfl, k _ O _ H q hd same_refl (.bl _)⟩
theorem opd_ninS {c : Nat} {l : List Nat} (q : Q (.bl (!decide (c ∈ l))) O) : OpD X F (fun x y H Q => ∃ (c : Nat) (z : Str), x = .str ⟨#[c]⟩ ∧ y = .str z ∧ Q (.bl (!decide (c ∈ z.cps.toList))) H) (.str [c]) (.str l) Γ O Q :=
  fun σ H v u R hd hv hu k => by
    cases hv; cases hu
    exact ⟨c, sOf l, rfl, rfl, k _ O _ H q hd same_refl (.bl _)⟩

/-! ### and, or, not, if -/
variable {QT : Bool → Ow → Prop} {rest : List Expr}
theorem wt_not (h : WT X F a Γ O fun k O1 => QT (!k) O1) : WT X F (.UnaryOp .Not a pos) Γ O QT := wt_of (pt_not h) fun σ H R hd k => ⟨hd, fun d O' H' q hd' s' => k _ O' H' q hd' s'⟩
def WW (X : Cx) (F : Fx) (e : Expr) (Γ : Ga) (O : Ow) (Q : Bool → Ow → Prop) : Prop := PW X e (tT X.K F Γ O Q)
def tAnyW (X : Cx) (e : Expr) : TT := fun σ H R => ∃ t, PW X e t ∧ t σ H R
theorem pw_any {e : Expr} : PW X e (tAnyW X e) := ⟨fun wh pins s σ H Q I ⟨t, p, q⟩ => p.run wh pins s σ H Q I q⟩
theorem pw_weak {e : Expr} {t u : TT} (h : PW X e t) (k : ∀ σ H R, u σ H R → t σ H R) : PW X e u := ⟨fun wh pins s σ H Q I q => h.run wh pins s σ H Q I (k _ _ _ q)⟩
theorem wt_ww {e : Expr} (h : WW X F e Γ O QT) : WT X F e Γ O QT := PW.pt h
theorem ww_and1 (h : WT X F a Γ O QT) : WW X F (.BoolOp .And [a] pos) Γ O QT := pw_and1 h
theorem ww_or1 (h : WT X F a Γ O QT) : WW X F (.BoolOp .Or [a] pos) Γ O QT := pw_or1 h
theorem ww_and (h : WT X F a Γ O fun k O1 => (k = true → WW X F (.BoolOp .And (b :: rest) pos) Γ O1 QT) ∧ (k = false → QT false O1)) : WW X F (.BoolOp .And (a :: b :: rest) pos) Γ O QT :=
  pw_weak (pw_and h (pw_any (e := .BoolOp .And (b :: rest) pos))) fun σ H R ⟨hd, k⟩ => ⟨hd, fun d O1 H1 q1 hd1 s1 => by
    cases d with
    | true =>
      show tAnyW X _ σ H1 R
      exact ⟨_, q1.1 rfl, hd1, fun d O' H' q hd' s' => k d O' H' q hd' (s1.trans s')⟩
    | false =>
      show R false H1
      exact k _ O1 H1 (q1.2 rfl) hd1 s1⟩
theorem ww_or (h : WT X F a Γ O fun k O1 => (k = true → QT true O1) ∧ (k = false → WW X F (.BoolOp .Or (b :: rest) pos) Γ O1 QT)) : WW X F (.BoolOp .Or (a :: b :: rest) pos) Γ O QT :=
  pw_weak (pw_or h (pw_any (e := .BoolOp .Or (b :: rest) pos))) fun σ H R ⟨hd, k⟩ => ⟨hd, fun d O1 H1 q1 hd1 s1 => by
    cases d with
    | false =>
      show tAnyW X _ σ H1 R
      exact ⟨_, q1.2 rfl, hd1, fun d O' H' q hd' s' => k d O' H' q hd' (s1.trans s')⟩
    | true =>
      show R true H1
      exact k _ O1 H1 (q1.1 rfl) hd1 s1⟩
/-- as values, all of them True or False -/
theorem we_one {op} (h : WE X F a Γ O Q) : WE X F (.BoolOp op [a] pos) Γ O Q := pe_one h
theorem we_and (h : WE X F a Γ O fun x O1 => ∃ k, x = .bl k ∧ (k = true → WE X F (.BoolOp .And (b :: rest) pos) Γ O1 Q) ∧ (k = false → Q (.bl false) O1)) : WE X F (.BoolOp .And (a :: b :: rest) pos) Γ O Q :=
  we_of (pe_and h (pe_any (e := .BoolOp .And (b :: rest) pos))) fun σ H R hd k => ⟨hd, fun d O1 v1 H1 ⟨kk, e, q1, q2⟩ hd1 s1 r1 => by
    subst e; cases r1
    refine ⟨kk, rfl, ?_⟩
    cases kk with
    | true =>
      show tAnyE X _ σ H1 R
      exact we_run (q1 rfl) hd1 fun d O' v H' q hd' s' r' => k d O' v H' q hd' (s1.trans s') r'
    | false =>
      show R (.bl false) H1
      exact k _ O1 _ H1 (q2 rfl) hd1 s1 (.bl _)⟩
theorem we_or (h : WE X F a Γ O fun x O1 => ∃ k, x = .bl k ∧ (k = true → Q (.bl true) O1) ∧ (k = false → WE X F (.BoolOp .Or (b :: rest) pos) Γ O1 Q)) : WE X F (.BoolOp .Or (a :: b :: rest) pos) Γ O Q :=
  we_of (pe_or h (pe_any (e := .BoolOp .Or (b :: rest) pos))) fun σ H R hd k => ⟨hd, fun d O1 v1 H1 ⟨kk, e, q1, q2⟩ hd1 s1 r1 => by
    subst e; cases r1
    refine ⟨kk, rfl, ?_⟩
    cases kk with
    | false =>
      show tAnyE X _ σ H1 R
      exact we_run (q2 rfl) hd1 fun d O' v H' q hd' s' r' => k d O' v H' q hd' (s1.trans s') r'
    | true =>
      show R (.bl true) H1
      exact k _ O1 _ H1 (q1 rfl) hd1 s1 (.bl _)⟩
theorem we_not (h : WE X F a Γ O fun x O1 => ∃ k, x = .bl k ∧ Q (.bl (!k)) O1) : WE X F (.UnaryOp .Not a pos) Γ O Q :=
  we_of (pe_not h) fun σ H R hd k => ⟨hd, fun d O1 v1 H1 ⟨kk, e, q1⟩ hd1 s1 r1 => by
    subst e; cases r1
    exact ⟨kk, rfl, k _ O1 _ H1 q1 hd1 s1 (.bl _)⟩⟩
theorem we_ifx (h : WT X F c Γ O fun k O1 => (k = true → WE X F a Γ O1 Q) ∧ (k = false → WE X F b Γ O1 Q)) : WE X F (.IfExp c a b pos) Γ O Q :=
  we_of (pe_ifExp h (pe_any (e := a)) (pe_any (e := b))) fun σ H R hd k => ⟨hd, fun d O1 H1 q1 hd1 s1 => by
    cases d with
    | true =>
      show tAnyE X _ σ H1 R
      exact we_run (q1.1 rfl) hd1 fun d O' v H' q hd' s' r' => k d O' v H' q hd' (s1.trans s') r'
    | false =>
      show tAnyE X _ σ H1 R
      exact we_run (q1.2 rfl) hd1 fun d O' v H' q hd' s' r' => k d O' v H' q hd' (s1.trans s') r'⟩
end
end Dl

namespace Dl
open PySem PySem.Spec PyProof.Rows L2

section
variable {K : PySem.W.Frag} {F : Fx} {Γ : Ga} {O : Ow} {σ : L2.St} {H : Hp} {p : Addr}
theorem mem_ads {O : Ow} {a : Addr} {c : OC} (h : (a, c) ∈ O) : a ∈ ads O := List.mem_map.mpr ⟨(a, c), h, rfl⟩
theorem OwsOk.ne (os : OwsOk K F O H) (hp : H p = none) : p ∉ ads O := fun h => by
  obtain ⟨⟨a, c⟩, hm, e0⟩ := List.mem_map.mp h
  obtain ⟨o, e⟩ := (os.ow a c hm).there
  have e0' : a = p := e0
  rw [e0', hp] at e; cases e
theorem same_new {o : HO} (hp : H p = none) : Same H (upd H p o) := fun a u e => by
  rw [upd_ne (ne_of_none e hp)]; exact e
theorem same_hide_new {o : HO} {L : List Addr} (hp : H p = none) : Same (hide L H) (hide L (upd H p o)) := fun a u e => by
  obtain ⟨h1, h2⟩ := hide_some e
  exact hide_of h1 (same_new hp a u h2)
theorem same_hide_cons {o : HO} {L : List Addr} (hp : H p = none) : Same (hide L H) (hide (p :: L) (upd H p o)) := fun a u e => by
  obtain ⟨h1, h2⟩ := hide_some e
  refine hide_of (fun z => ?_) (same_new hp a u h2)
  rcases List.mem_cons.mp z with rfl | z
  · rw [hp] at h2; cases h2
  · exact h1 z
theorem SlOk.mono {S S' : Hp} (e : Same S S') (h : ∀ (i : Nat) (d : D), Γ[i]? = some (some d) → ∃ v, σ[i]? = some (some v) ∧ Rep K S v d) : ∀ (i : Nat) (d : D), Γ[i]? = some (some d) → ∃ v, σ[i]? = some (some v) ∧ Rep K S' v d := fun i d q => by
  obtain ⟨v, h1, h2⟩ := h i d q
  exact ⟨v, h1, h2.mono e⟩
theorem Hd.nz (h : Hd K F Γ O σ H) (hp : H p = none) : p ∉ F.Z := fun z => by
  obtain ⟨h1, o, h2⟩ := h.zf p z
  have := (hide_some (h.fr p o (hide_of h1 h2))).2
  rw [hp] at this; cases this
/-- a new object, not owned -/
theorem Hd.new {o : HO} (h : Hd K F Γ O σ H) (hp : H p = none) : Hd K F Γ O σ (upd H p o) :=
  ⟨h.len, SlOk.mono (ss (same_hide_new hp)) h.sl, ⟨h.os.nd, fun a c m => (h.os.ow a c m).mono (ss (same_hide_new hp)) (upd_ne fun z => by
    subst z
    exact h.os.ne hp (mem_ads m))⟩, h.fr.trans (same_hide_new hp), h.zf⟩
/-- a new object, owned -/
theorem Hd.newO {o : HO} {c : OC} (h : Hd K F Γ O σ H) (hp : H p = none) (hc : OwOk K (stb F O H) (upd H p o) p c) : Hd K F Γ ((p, c) :: O) σ (upd H p o) :=
  ⟨h.len, SlOk.mono (ss (same_hide_cons hp)) h.sl, ⟨List.nodup_cons.mpr ⟨h.os.ne hp, h.os.nd⟩, fun a c' m => by
    rcases List.mem_cons.mp m with e | m2
    · cases e
      exact hc.mono (ss (same_hide_cons hp)) rfl
    · exact (h.os.ow a c' m2).mono (ss (same_hide_cons hp)) (upd_ne fun z => h.os.ne hp (z ▸ mem_ads m2))⟩, h.fr.trans (same_hide_cons hp), h.zf⟩
end

section
variable {X : Cx} {F : Fx} {Γ : Ga} {O : Ow} {Q : QD}
/-- a new list, as a value or owned -/
def NewL (ds : List D) (O : Ow) (Q : QD) : Prop := Q (.lst ds) O ∨ ∀ p, p ∉ ads O → Q (.at p) ((p, .lst ds) :: O)
theorem NewL.run {ds : List D} {σ : L2.St} {H : Hp} {R : VK} {vs : List V} (h : NewL ds O Q) (hd : Hd X.K F Γ O σ H) (r : Reps X.K (stb F O H) vs ds)
    (k : ∀ d O' w H', Q d O' → Hd X.K F Γ O' σ H' → Same (hide (ads O) H) (hide (ads O') H') → Rep X.K (stb F O' H') w d → R w H') : ∀ p, H p = none → R (.ref p) (upd H p (.lst vs)) := fun p hp => by
  rcases h with h | h
  · refine k _ O (.ref p) _ h (hd.new hp) (same_hide_new hp) (.lst (stb_of (hd.nz hp) (hd.os.ne hp) upd_same) (r.mono (ss (same_hide_new hp))))
  · exact k _ _ (.ref p) _ (h p (hd.os.ne hp)) (hd.newO hp ⟨vs, upd_same, r⟩) (same_hide_cons hp) (.at p)
theorem newT_run {ds : List D} {σ : L2.St} {H : Hp} {R : VK} {vs : List V} (h : Q (.tup ds) O) (hd : Hd X.K F Γ O σ H) (r : Reps X.K (stb F O H) vs ds)
    (k : ∀ d O' w H', Q d O' → Hd X.K F Γ O' σ H' → Same (hide (ads O) H) (hide (ads O') H') → Rep X.K (stb F O' H') w d → R w H') : ∀ p, H p = none → R (.ref p) (upd H p (.tup vs)) := fun p hp =>
  k _ O (.ref p) _ h (hd.new hp) (same_hide_new hp) (.tup (.inl (stb_of (hd.nz hp) (hd.os.ne hp) upd_same)) (r.mono (ss (same_hide_new hp))))
variable {a b c whole : Expr} {es : List Expr} {pos : Pos}
theorem we_lst (h : WA X F es Γ O fun ds O1 => ds.length ≤ sizeLine ∧ NewL ds O1 Q) : WE X F (.List es pos) Γ O Q :=
  we_of (pe_lst h) fun σ H R hd k => ⟨hd, fun ds O1 vs H1 ⟨z, q⟩ hd1 s1 r1 => ⟨by rw [r1.length]; exact z, q.run hd1 r1 fun d O' w H' q hd' s' r' => k d O' w H' q hd' (s1.trans s') r'⟩⟩
theorem we_tup {x1} (h : WA X F es Γ O fun ds O1 => ds.length ≤ sizeLine ∧ Q (.tup ds) O1) : WE X F (.Tuple es x1 pos) Γ O Q :=
  we_of (pe_tup h) fun σ H R hd k => ⟨hd, fun ds O1 vs H1 ⟨z, q⟩ hd1 s1 r1 => ⟨by rw [r1.length]; exact z, newT_run q hd1 r1 fun d O' w H' q hd' s' r' => k d O' w H' q hd' (s1.trans s') r'⟩⟩

/-! ### texts -/
theorem sOf_len (l : List Nat) : (sOf l).length = l.length := by simp [sOf, Str.length]
theorem sOf_app (l m : List Nat) : sOf l ++ sOf m = sOf (l ++ m) := by
  apply Str.ext'
  show (l.toArray ++ m.toArray) = (l ++ m).toArray
  simp
theorem we_addS (h : WE X F a Γ O fun x O1 => WE X F b Γ O1 fun y O2 => ∃ l m, x = .str l ∧ y = .str m ∧ l.length + m.length ≤ sizeLine ∧ Q (.str (l ++ m)) O2) : WE X F (.BinOp a .Add b pos) Γ O Q :=
  we_bin (pe_op op_add_str) (we_imp h fun x O1 h => we_imp h fun y O2 ⟨l, m, e1, e2, hz, q⟩ => fun σ H v u R hd hv hu k => by
    subst e1; subst e2; cases hv; cases hu
    refine ⟨sOf l, sOf m, rfl, rfl, by rw [sOf_len, sOf_len]; exact hz, ?_⟩
    rw [sOf_app]
    exact k _ O2 _ H q hd same_refl (.str _))
theorem opd_eqS {l m : List Nat} (q : Q (.bl (decide (l = m))) O) : OpD X F rEq (.str l) (.str m) Γ O Q := fun σ H v u R hd hv hu k => by
  cases hv; cases hu
  refine ⟨rfl, ?_⟩
  have e : decide (V.str (sOf l) = V.str (sOf m)) = decide (l = m) := decide_eq_decide.mpr ⟨fun z => by injection z with z; simpa [sOf] using z, fun z => by rw [z]⟩
  rw [e]
  exact k _ O _ H q hd same_refl (.bl _)
theorem opd_neS {l m : List Nat} (q : Q (.bl (!decide (l = m))) O) : OpD X F rNe (.str l) (.str m) Γ O Q := fun σ H v u R hd hv hu k => by
  cases hv; cases hu
  refine ⟨rfl, ?_⟩
  have e : decide (V.str (sOf l) = V.str (sOf m)) = decide (l = m) := decide_eq_decide.mpr ⟨fun z => by injection z with z; simpa [sOf] using z, fun z => by rw [z]⟩
  rw [e]
  exact k _ O _ H q hd same_refl (.bl _)
theorem opd_eqI {i j : Int} (q : Q (.bl (decide (i = j))) O) : OpD X F rEq (.int i) (.int j) Γ O Q := fun σ H v u R hd hv hu k => by
  cases hv; cases hu
  refine ⟨rfl, ?_⟩
  have e : decide (V.int i = V.int j) = decide (i = j) := decide_eq_decide.mpr ⟨fun z => by injection z, fun z => by rw [z]⟩
  rw [e]
  exact k _ O _ H q hd same_refl (.bl _)
theorem opd_neI {i j : Int} (q : Q (.bl (!decide (i = j))) O) : OpD X F rNe (.int i) (.int j) Γ O Q := fun σ H v u R hd hv hu k => by
  cases hv; cases hu
  refine ⟨rfl, ?_⟩
  have e : decide (V.int i = V.int j) = decide (i = j) := decide_eq_decide.mpr ⟨fun z => by injection z, fun z => by rw [z]⟩
  rw [e]
  exact k _ O _ H q hd same_refl (.bl _)
theorem opd_eqB {i j : Bool} (q : Q (.bl (decide (i = j))) O) : OpD X F rEq (.bl i) (.bl j) Γ O Q := fun σ H v u R hd hv hu k => by
  cases hv; cases hu
  refine ⟨rfl, ?_⟩
  have e : decide (V.bl i = V.bl j) = decide (i = j) := decide_eq_decide.mpr ⟨fun z => by injection z, fun z => by rw [z]⟩
  rw [e]
  exact k _ O _ H q hd same_refl (.bl _)
theorem opd_neB {i j : Bool} (q : Q (.bl (!decide (i = j))) O) : OpD X F rNe (.bl i) (.bl j) Γ O Q := fun σ H v u R hd hv hu k => by
  cases hv; cases hu
  refine ⟨rfl, ?_⟩
  have e : decide (V.bl i = V.bl j) = decide (i = j) := decide_eq_decide.mpr ⟨fun z => by injection z, fun z => by rw [z]⟩
  rw [e]
  exact k _ O _ H q hd same_refl (.bl _)
/-- is of two truth values -/
theorem opd_isB {i j : Bool} (q : Q (.bl (decide (i = j))) O) : OpD X F rIsB (.bl i) (.bl j) Γ O Q := fun σ H v u R hd hv hu k => by
  cases hv; cases hu
  exact ⟨i, j, rfl, rfl, k _ O _ H q hd same_refl (.bl _)⟩
/-- the order of texts -/
theorem opd_leS {l m : List Nat} (q : Q (.bl (!decide (m < l))) O) : OpD X F (fun x y H Q => ∃ i j, x = .str i ∧ y = .str j ∧ Q (.bl (!decide (j.cps.toList < i.cps.toList))) H) (.str l) (.str m) Γ O Q := fun σ H v u R hd hv hu k => by
  cases hv; cases hu
  exact ⟨_, _, rfl, rfl, k _ O _ H q hd same_refl (.bl _)⟩

/-! ### places -/
theorem reps_atI {K : PySem.W.Frag} {H : Hp} {vs : List V} {ds : List D} {i : Int} {d : D} (r : Reps K H vs ds) (h : atI ds i = some d) : ∃ v, atI vs i = some v ∧ Rep K H v d := by
  obtain ⟨j, h1, h2, h3, h4, h5⟩ := atI_get h
  obtain ⟨v, e1, e2⟩ := r.get h2
  refine ⟨v, ?_, e2⟩
  unfold atI at h ⊢
  rw [r.length]
  cases q : ixN ds.length i with
  | none => rw [q] at h; cases h
  | some m =>
    have := (ixN_seq q).1
    rw [h1] at this
    cases this
    exact e1
theorem we_ixL (h : WE X F a Γ O fun x O1 => WE X F b Γ O1 fun y O2 => ∃ ds i d, Vw x O2 (.lst ds) ∧ y = .int i ∧ atI ds i = some d ∧ Q d O2) (hs : PlainIx b := by exact fun _ _ => rfl) : WE X F (.Subscript a b pos) Γ O Q :=
  we_bin (fun ha hb => pe_ix ix_list ha hb hs) (we_imp h fun x O1 h => we_imp h fun y O2 ⟨ds, i, d, w, e2, ei, q⟩ => fun σ H v u R hd hv hu k => by
    subst e2; cases hu
    obtain ⟨p, xs, rfl, h1, h2⟩ := w.lst hd.os hv
    obtain ⟨z, e3, r3⟩ := reps_atI h2 ei
    exact ⟨p, xs, i, z, rfl, rfl, SqL.of h1, e3, k _ O2 _ H q hd same_refl r3⟩)
theorem we_ixT (h : WE X F a Γ O fun x O1 => WE X F b Γ O1 fun y O2 => ∃ ds i d, x = .tup ds ∧ y = .int i ∧ atI ds i = some d ∧ Q d O2) (hs : PlainIx b := by exact fun _ _ => rfl) : WE X F (.Subscript a b pos) Γ O Q :=
  we_bin (fun ha hb => pe_ix ix_tup ha hb hs) (we_imp h fun x O1 h => we_imp h fun y O2 ⟨ds, i, d, e1, e2, ei, q⟩ => fun σ H v u R hd hv hu k => by
    subst e1; subst e2; cases hu
    cases hv with
    | tup h1 h2 =>
      obtain ⟨z, e3, r3⟩ := reps_atI h2 ei
      exact ⟨_, _, i, z, rfl, rfl, (h1.mono stb_same).sq, e3, k _ O2 _ H q hd same_refl r3⟩)
theorem we_ixS (h : WE X F a Γ O fun x O1 => WE X F b Γ O1 fun y O2 => ∃ l i c, x = .str l ∧ y = .int i ∧ l.length ≤ sizeLine ∧ atI l i = some c ∧ Q (.str [c]) O2) (hs : PlainIx b := by exact fun _ _ => rfl) : WE X F (.Subscript a b pos) Γ O Q :=
  we_bin (r := rIx X.K) (fun ha hb => pe_ix ix_seq ha hb hs) (we_imp h fun x O1 h => we_imp h fun y O2 ⟨l, i, c, e1, e2, hz, ei, q⟩ => fun σ H v u R hd hv hu k => by
    subst e1; subst e2; cases hu; cases hv
    exact .inr (.inr ⟨sOf l, i, c, rfl, rfl, by rw [sOf_len]; exact hz, ei, k _ O2 _ H q hd same_refl (.str _)⟩))
/-- the script -/
theorem we_ixR (h : WE X F a Γ O fun x O1 => WE X F b Γ O1 fun y O2 => ∃ ds i d, x = .rl ds ∧ y = .int i ∧ atI ds i = some d ∧ Q d O2) (hs : PlainIx b := by exact fun _ _ => rfl) : WE X F (.Subscript a b pos) Γ O Q :=
  we_bin (fun ha hb => pe_ix ix_list ha hb hs) (we_imp h fun x O1 h => we_imp h fun y O2 ⟨ds, i, d, e1, e2, ei, q⟩ => fun σ H v u R hd hv hu k => by
    subst e1; subst e2; cases hu
    cases hv with
    | rl h1 h2 =>
      obtain ⟨z, e3, r3⟩ := reps_atI h2 ei
      exact ⟨_, _, i, z, rfl, rfl, sql_mono stb_same h1, e3, k _ O2 _ H q hd same_refl r3⟩)
end
end Dl

namespace Dl
open PySem PySem.Spec PyProof.Rows L2

/-- what is used of the built-in names: none of them is the module's own -/
structure Bt (mg : Str → Option Value) : Prop where
  len : mg "len" = none
  max : mg "max" = none
  min : mg "min" = none
  range : mg "range" = none
  isinstance : mg "isinstance" = none
  all : mg "all" = none
  any : mg "any" = none
  sum : mg "sum" = none
  zip : mg "zip" = none
  enumerate : mg "enumerate" = none
  sorted : mg "sorted" = none
  repr : mg "repr" = none
  int : mg "int" = none
  str : mg "str" = none
  bool : mg "bool" = none
  list : mg "list" = none
  tuple : mg "tuple" = none
  set : mg "set" = none
  dict : mg "dict" = none
  abs : mg "abs" = none

/-! ### an owned cell changes -/
section
variable {K : PySem.W.Frag} {F : Fx} {Γ : Ga} {O : Ow} {σ : L2.St} {H : Hp} {p : Addr}
theorem ads_set {k : Nat} {c c' : OC} (h : O[k]? = some (p, c)) : ads (O.set k (p, c')) = ads O := by
  unfold ads
  rw [List.map_set]
  apply List.ext_getElem?
  intro i
  by_cases hi : k = i
  · subst hi
    have hk := (List.getElem?_eq_some_iff.mp h).1
    rw [List.getElem?_set_self (by simpa using hk), List.getElem?_map, h]
    rfl
  · rw [List.getElem?_set_ne hi]
theorem hide_upd {o : HO} {L : List Addr} (h : p ∈ L) : hide L (upd H p o) = hide L H := by
  funext a
  by_cases ha : a ∈ L
  · rw [hide_in ha, hide_in ha]
  · rw [hide_ne ha, hide_ne ha, upd_ne (fun z : a = p => ha (by rw [z]; exact h))]
theorem mem_of_get {k : Nat} {c : OC} (h : O[k]? = some (p, c)) : (p, c) ∈ O := List.mem_of_getElem? h
theorem Hd.set {k : Nat} {c c' : OC} {o : HO} (h : Hd K F Γ O σ H) (hk : O[k]? = some (p, c)) (hc : OwOk K (stb F O H) (upd H p o) p c') : Hd K F Γ (O.set k (p, c')) σ (upd H p o) ∧ Same (hide (ads O) H) (hide (ads (O.set k (p, c'))) (upd H p o)) := by
  have hm : p ∈ ads O := mem_ads (mem_of_get hk)
  have ea : ads (O.set k (p, c')) = ads O := ads_set hk
  have eh : hide (ads (O.set k (p, c'))) (upd H p o) = hide (ads O) H := by rw [ea, hide_upd hm]
  have et : stb F (O.set k (p, c')) (upd H p o) = stb F O H := by
    unfold stb
    rw [ea, hide_upd (List.mem_append_right _ hm)]
  refine ⟨⟨h.len, by rw [et]; exact h.sl, ⟨by rw [ea]; exact h.os.nd, fun a d m => ?_⟩, by rw [eh]; exact h.fr, h.zf⟩, by rw [eh]; exact same_refl⟩
  rw [et]
  obtain ⟨i, hi⟩ := List.getElem?_of_mem m
  by_cases e : k = i
  · subst e
    have hlt := (List.getElem?_eq_some_iff.mp hk).1
    rw [List.getElem?_set_self hlt] at hi
    cases hi
    exact hc
  · rw [List.getElem?_set_ne e] at hi
    have hmem := mem_of_get hi
    refine (h.os.ow a d hmem).mono same_refl (upd_ne fun z => ?_)
    -- the same address twice
    have nd := h.os.nd
    have e1 : (ads O)[k]? = some p := by unfold ads; rw [List.getElem?_map, hk]; rfl
    have e2 : (ads O)[i]? = some a := by unfold ads; rw [List.getElem?_map, hi]; rfl
    rw [z] at e2
    obtain ⟨h1, g1⟩ := List.getElem?_eq_some_iff.mp e1
    obtain ⟨h2, g2⟩ := List.getElem?_eq_some_iff.mp e2
    exact e ((List.getElem_inj nd).mp (g1.trans g2.symm))
/-- a cell seen otherwise -/
theorem Hd.recell {k : Nat} {c c' : OC} (h : Hd K F Γ O σ H) (hk : O[k]? = some (p, c)) (hc : OwOk K (stb F O H) H p c') : Hd K F Γ (O.set k (p, c')) σ H := by
  have ea : ads (O.set k (p, c')) = ads O := ads_set hk
  have et : stb F (O.set k (p, c')) H = stb F O H := by
    unfold stb
    rw [ea]
  refine ⟨h.len, by rw [et]; exact h.sl, ⟨by rw [ea]; exact h.os.nd, fun a d m => ?_⟩, by rw [ea]; exact h.fr, h.zf⟩
  rw [et]
  obtain ⟨i, hi⟩ := List.getElem?_of_mem m
  by_cases e : k = i
  · subst e
    have hlt := (List.getElem?_eq_some_iff.mp hk).1
    rw [List.getElem?_set_self hlt] at hi
    cases hi
    exact hc
  · rw [List.getElem?_set_ne e] at hi
    exact h.os.ow a d (mem_of_get hi)
end

/-! ### slices -/
/-- l[lo:hi] -/
def cut {α : Type} (l : List α) (lo hi : Option Int) : List α := (l.drop (HT.sIx l.length 0 lo)).take (HT.sIx l.length l.length hi - HT.sIx l.length 0 lo)
section
variable {X : Cx} {F : Fx} {Γ : Ga} {O : Ow} {Q : QD} {a b c whole : Expr} {es : List Expr} {pos : Pos}
def tOo (K : PySem.W.Frag) (F : Fx) (Γ : Ga) (O : Ow) (Q : Option Int → Ow → Prop) : TO := fun σ H R => Hd K F Γ O σ H ∧
  ∀ d O' H', Q d O' → Hd K F Γ O' σ H' → Same (hide (ads O) H) (hide (ads O') H') → R d H'
def WO (X : Cx) (F : Fx) (e : Option Expr) (Γ : Ga) (O : Ow) (Q : Option Int → Ow → Prop) : Prop := PO X e (tOo X.K F Γ O Q)
theorem po_weak {e : Option Expr} {t u : TO} (h : PO X e t) (k : ∀ σ H R, u σ H R → t σ H R) : PO X e u := ⟨fun pins s σ H Q I q => h.run pins s σ H Q I (k _ _ _ q)⟩
def tAnyO (X : Cx) (e : Option Expr) : TO := fun σ H R => ∃ t, PO X e t ∧ t σ H R
theorem po_any {e : Option Expr} : PO X e (tAnyO X e) := ⟨fun pins s σ H Q I ⟨t, p, q⟩ => p.run pins s σ H Q I q⟩
theorem wo_none {Q : Option Int → Ow → Prop} (q : Q none O) : WO X F none Γ O Q := po_weak po_none fun σ H R ⟨hd, k⟩ => k _ O H q hd same_refl
theorem wo_some {Q : Option Int → Ow → Prop} (h : WE X F a Γ O fun x O1 => ∃ i, x = .int i ∧ Q (some i) O1) : WO X F (some a) Γ O Q :=
  po_weak (po_some h) fun σ H R ⟨hd, k⟩ => ⟨hd, fun d O1 v H1 ⟨i, e, q⟩ hd1 s1 r1 => by
    subst e; cases r1
    exact ⟨i, rfl, k _ O1 H1 q hd1 s1⟩⟩
def SlD (X : Cx) (F : Fx) (r : V → Option Int → Option Int → Hp → VK → Prop) (x : D) (l u : Option Int) (Γ : Ga) (O : Ow) (Q : QD) : Prop :=
  ∀ (σ : L2.St) (H : Hp) (v : V) (R : VK), Hd X.K F Γ O σ H → Rep X.K (stb F O H) v x →
    (∀ d O' w H', Q d O' → Hd X.K F Γ O' σ H' → Same (hide (ads O) H) (hide (ads O') H') → Rep X.K (stb F O' H') w d → R w H') → r v l u H R
theorem we_sli {r : V → Option Int → Option Int → Hp → VK → Prop} {lo hi : Option Expr} {p2 : Pos} (hr : SlR X r) (h : WE X F a Γ O fun x O1 => WO X F lo Γ O1 fun l O2 => WO X F hi Γ O2 fun u O3 => SlD X F r x l u Γ O3 Q) :
    WE X F (.Subscript a (.Slice lo hi none p2) pos) Γ O Q :=
  we_of (pe_slice hr h (po_any (e := lo)) (po_any (e := hi))) fun σ H R hd k => ⟨hd, fun d1 O1 v1 H1 q1 hd1 s1 r1 => ⟨_, q1, hd1, fun l O2 H2 q2 hd2 s2 => ⟨_, q2, hd2, fun u O3 H3 q3 hd3 s3 =>
    q3 σ H3 v1 R hd3 ((r1.mono (ss s2)).mono (ss s3)) fun d O' w H' q hd' s' r' => k d O' w H' q hd' (((s1.trans s2).trans s3).trans s') r'⟩⟩⟩
theorem reps_cut {K : PySem.W.Frag} {H : Hp} {vs : List V} {ds : List D} (r : Reps K H vs ds) (lo hi : Option Int) : Reps K H (cutV vs lo hi) (cut ds lo hi) := by
  unfold cutV cut
  rw [r.length]
  exact (r.drop _).take _
theorem we_slS {lo hi : Option Expr} {p2 : Pos} (h : WE X F a Γ O fun x O1 => WO X F lo Γ O1 fun l O2 => WO X F hi Γ O2 fun u O3 => ∃ z, x = .str z ∧ z.length ≤ sizeLine ∧ Q (.str (cut z l u)) O3) :
    WE X F (.Subscript a (.Slice lo hi none p2) pos) Γ O Q :=
  we_sli sl_str (we_imp h fun x O1 h => po_weak h fun σ H R ⟨hd, k⟩ => ⟨hd, fun d O' H' q => k d O' H' (po_weak q fun σ H R ⟨hd, k⟩ => ⟨hd, fun u O3 H' ⟨z, e, hz, q3⟩ => k u O3 H' fun σ3 H3 v3 R3 hd3 hv3 k3 => by
    subst e; cases hv3
    exact ⟨sOf z, rfl, by rw [sOf_len]; exact hz, by
      have e2 : cutS (sOf z) d u = sOf (cut z d u) := by
        unfold cutS cut
        rw [sOf_len]
      rw [e2]
      exact k3 _ O3 _ H3 q3 hd3 same_refl (.str _)⟩⟩)⟩)
theorem we_slL {lo hi : Option Expr} {p2 : Pos} (h : WE X F a Γ O fun x O1 => WO X F lo Γ O1 fun l O2 => WO X F hi Γ O2 fun u O3 => ∃ ds, Vw x O3 (.lst ds) ∧ NewL (cut ds l u) O3 Q) :
    WE X F (.Subscript a (.Slice lo hi none p2) pos) Γ O Q :=
  we_sli sl_list (we_imp h fun x O1 h => po_weak h fun σ H R ⟨hd, k⟩ => ⟨hd, fun d O' H' q => k d O' H' (po_weak q fun σ H R ⟨hd, k⟩ => ⟨hd, fun u O3 H' ⟨z, w, q⟩ => k u O3 H' fun σ H v R hd hv k => by
    obtain ⟨p, xs, rfl, h1, h2⟩ := w.lst hd.os hv
    exact ⟨p, xs, rfl, SqL.of h1, q.run hd (reps_cut h2 d u) k⟩⟩)⟩)
theorem we_slT {lo hi : Option Expr} {p2 : Pos} (h : WE X F a Γ O fun x O1 => WO X F lo Γ O1 fun l O2 => WO X F hi Γ O2 fun u O3 => ∃ ds, x = .tup ds ∧ Q (.tup (cut ds l u)) O3) :
    WE X F (.Subscript a (.Slice lo hi none p2) pos) Γ O Q :=
  we_sli sl_tupA (we_imp h fun x O1 h => po_weak h fun σ H R ⟨hd, k⟩ => ⟨hd, fun d O' H' q => k d O' H' (po_weak q fun σ H R ⟨hd, k⟩ => ⟨hd, fun u O3 H' ⟨z, e, q3⟩ => k u O3 H' fun σ3 H3 v3 R3 hd3 hv3 k3 => by
    subst e
    cases hv3 with
    | @tup p xs _ h1 h2 =>
      refine ⟨p, xs, rfl, (h1.mono stb_same).sq, fun hw => ?_, fun _ => newT_run q3 hd3 (reps_cut h2 d u) k3⟩
      have e : cut z d u = z := by
        unfold cut
        rw [← h2.length, hw.1, hw.2]
        simp [h2.length]
      rw [e] at q3
      exact k3 _ O3 _ H3 q3 hd3 same_refl (.tup h1 h2)⟩)⟩)
/-! what slices are -/
theorem cut_to {α : Type} (l : List α) (n : Nat) : cut l none (some (n : Int)) = l.take n := by
  unfold cut
  rw [HT.sIx_none, HT.sIx_nat]
  simp
theorem cut_from {α : Type} (l : List α) (n : Nat) : cut l (some (n : Int)) none = l.drop n := by
  unfold cut
  rw [HT.sIx_none, HT.sIx_nat]
  apply List.ext_getElem?
  intro i
  simp only [List.getElem?_take, List.getElem?_drop]
  by_cases h : n ≤ l.length
  · rw [Nat.min_eq_left h]
    split
    · rfl
    · rw [List.getElem?_eq_none (by omega)]
  · rw [Nat.min_eq_right (by omega)]
    rw [List.getElem?_eq_none (l := l) (i := n + i) (by omega)]
    split
    · rw [List.getElem?_eq_none (by omega)]
    · rfl
theorem cut_mid {α : Type} (l : List α) (m n : Nat) : cut l (some (m : Int)) (some (n : Int)) = (l.take n).drop m := by
  unfold cut
  rw [HT.sIx_nat, HT.sIx_nat, List.drop_take]
  apply List.ext_getElem?
  intro i
  simp only [List.getElem?_take, List.getElem?_drop]
  by_cases hm : m ≤ l.length
  · rw [Nat.min_eq_left hm]
    by_cases hn : n ≤ l.length
    · rw [Nat.min_eq_left hn]
    · rw [Nat.min_eq_right (by omega)]
      by_cases hi : m + i < l.length
      · rw [if_pos (by omega), if_pos (by omega)]
      · rw [List.getElem?_eq_none (by omega)]
        split <;> split <;> rfl
  · rw [Nat.min_eq_right (a := m) (by omega)]
    rw [List.getElem?_eq_none (by omega), List.getElem?_eq_none (l := l) (i := m + i) (by omega)]
    split <;> split <;> rfl
theorem sIx_neg (n d k : Nat) (h : 0 < k) : HT.sIx n d (some (-(k : Int))) = n - k := by
  show (if -(k : Int) < 0 then (-(k : Int) + (n : Int)).toNat else min (-(k : Int)).toNat n) = n - k
  rw [if_pos (by omega)]
  omega
theorem cut_init {α : Type} (l : List α) : cut l none (some (-1)) = l.dropLast := by
  unfold cut
  have e : HT.sIx l.length l.length (some (-1)) = l.length - 1 := sIx_neg _ _ 1 (by decide)
  rw [HT.sIx_none, e, List.dropLast_eq_take]
  simp
theorem cut_last {α : Type} (l : List α) : cut l (some (-1)) none = l.drop (l.length - 1) := by
  unfold cut
  have e : HT.sIx l.length 0 (some (-1)) = l.length - 1 := sIx_neg _ _ 1 (by decide)
  rw [HT.sIx_none, e, ← List.length_drop, List.take_length]
theorem cut_inner {α : Type} (l : List α) : cut l (some 1) (some (-1)) = (l.drop 1).dropLast := by
  unfold cut
  have e : HT.sIx l.length l.length (some (-1)) = l.length - 1 := sIx_neg _ _ 1 (by decide)
  have e1 : HT.sIx l.length 0 (some 1) = min 1 l.length := HT.sIx_nat _ _ 1
  rw [e, e1, List.dropLast_eq_take, List.length_drop]
  cases l with
  | nil => rfl
  | cons x r => simp
theorem cut_all {α : Type} (l : List α) : cut l none none = l := by
  unfold cut
  rw [HT.sIx_none, HT.sIx_none]
  simp

/-! ### lists and tuples glued, repeated -/
theorem we_addL (h : WE X F a Γ O fun x O1 => WE X F b Γ O1 fun y O2 => ∃ l m, Vw x O2 (.lst l) ∧ Vw y O2 (.lst m) ∧ l.length + m.length ≤ sizeLine ∧ NewL (l ++ m) O2 Q) : WE X F (.BinOp a .Add b pos) Γ O Q :=
  we_bin (pe_op op_cat) (we_imp h fun x O1 h => we_imp h fun y O2 ⟨l, m, wx, wy, hz, q⟩ => fun σ H v u R hd hv hu k => by
    obtain ⟨p1, xs, rfl, h1, r1⟩ := wx.lst hd.os hv
    obtain ⟨p2, ys, rfl, h2, r2⟩ := wy.lst hd.os hu
    exact ⟨p1, p2, xs, ys, rfl, rfl, h1, h2, by rw [r1.length, r2.length]; exact hz, q.run hd (r1.append r2) k⟩)
theorem we_addT (h : WE X F a Γ O fun x O1 => WE X F b Γ O1 fun y O2 => ∃ l m, x = .tup l ∧ y = .tup m ∧ l.length + m.length ≤ sizeLine ∧ Q (.tup (l ++ m)) O2) : WE X F (.BinOp a .Add b pos) Γ O Q :=
  we_bin (pe_op op_catA) (we_imp h fun x O1 h => we_imp h fun y O2 ⟨l, m, e1, e2, hz, q⟩ => fun σ H v u R hd hv hu k => by
    subst e1; subst e2
    cases hv with
    | @tup p1 xs _ h1 r1 =>
      cases hu with
      | @tup p2 ys _ h2 r2 =>
        refine ⟨p1, p2, xs, ys, rfl, rfl, (h1.mono stb_same).sq, (h2.mono stb_same).sq, by rw [r1.length, r2.length]; exact hz, fun e => ?_, fun _ e => ?_, fun _ _ => newT_run q hd (r1.append r2) k⟩
        · subst e
          cases r1
          exact k _ O2 _ H q hd same_refl (.tup h2 r2)
        · subst e
          cases r2
          rw [List.append_nil] at q
          exact k _ O2 _ H q hd same_refl (.tup h1 r1))
def repL {α : Type} (l : List α) (k : Int) : List α := (List.replicate k.toNat l).flatten
theorem reps_rep {K : PySem.W.Frag} {H : Hp} {vs : List V} {ds : List D} (r : Reps K H vs ds) : ∀ n : Nat, Reps K H (List.replicate n vs).flatten (List.replicate n ds).flatten
  | 0 => by simpa using Reps.nil
  | n + 1 => by
    rw [List.replicate_succ, List.replicate_succ, List.flatten_cons, List.flatten_cons]
    exact r.append (reps_rep r n)

/-! ### built-in functions -/
variable {p : Pos}
def LenD (x : D) (O : Ow) (n : Nat) : Prop := (∃ l, x = .str l ∧ l.length ≤ sizeLine ∧ n = l.length) ∨ (∃ ds, Vw x O (.lst ds) ∧ n = ds.length) ∨ (∃ ds, x = .tup ds ∧ n = ds.length) ∨ (∃ ds, x = .rl ds ∧ n = ds.length)
theorem we_len (hm : X.mg "len" = none) (h : WE X F a Γ O fun x O1 => ∃ n, LenD x O1 n ∧ Q (.int n) O1) (hg : Gl X "len" := by rfl) (he : starEach (a :: []) X.env = (false, eval a X.env) :: starEach [] X.env := by rfl) (hpl : (backTo pos (starEach [] X.env)).any (·.1) = false := by rfl) :
    WE X F (.Call (.Name "len" p) [a] [] pos) Γ O Q :=
  we_cal (fun ha => pe_callB call_len hg hm boot_len ha (by decide) (by decide) he hpl) (wa_cons (we_imp h fun x O1 ⟨n, hl, q⟩ => wa_nil fun σ H vs R hd hv k => by
    cases hv with
    | cons hv hn =>
      cases hn
      refine ⟨_, n, rfl, ?_, k _ O1 _ H q hd same_refl (.int _)⟩
      rcases hl with ⟨l, rfl, hz, rfl⟩ | ⟨ds, w, rfl⟩ | ⟨ds, rfl, rfl⟩ | ⟨ds, rfl, rfl⟩
      · cases hv
        exact ⟨by rw [sOf_len]; exact hz, (sOf_len l).symm⟩
      · obtain ⟨p1, xs, rfl, h1, r1⟩ := w.lst hd.os hv
        exact .inl ⟨xs, SqL.of h1, r1.length.symm⟩
      · cases hv with
        | tup h1 r1 => exact .inr ⟨_, (h1.mono stb_same).sq, r1.length.symm⟩
      · cases hv with
        | rl h1 r1 => exact .inl ⟨_, sql_mono stb_same h1, r1.length.symm⟩) he)
theorem max_ite (i j : Int) : (if j > i then j else i) = max i j := by
  by_cases h : j > i
  · rw [if_pos h]; omega
  · rw [if_neg h]; omega
theorem min_ite (i j : Int) : (if j < i then j else i) = min i j := by
  by_cases h : j < i
  · rw [if_pos h]; omega
  · rw [if_neg h]; omega
theorem we_max2 (hm : X.mg "max" = none) (h : WE X F a Γ O fun x O1 => WE X F b Γ O1 fun y O2 => ∃ i j, x = .int i ∧ y = .int j ∧ Q (.int (max i j)) O2) (hc : X.calm = true := by rfl) (hg : Gl X "max" := by rfl)
    (he : starEach (a :: [b]) X.env = (false, eval a X.env) :: starEach [b] X.env := by rfl) (he2 : starEach (b :: []) X.env = (false, eval b X.env) :: starEach [] X.env := by rfl) (hpl : (backTo pos (starEach [b] X.env)).any (·.1) = false := by rfl) :
    WE X F (.Call (.Name "max" p) [a, b] [] pos) Γ O Q :=
  we_cal (fun ha => pe_callB (call_max2 hc) hg hm (by decide +kernel) ha (by decide) (by decide) he hpl) (wa_cons (we_imp h fun x O1 h => wa_cons (we_imp h fun y O2 ⟨i, j, e1, e2, q⟩ => wa_nil fun σ H vs R hd hv k => by
    subst e1; subst e2
    cases hv with
    | cons hv hn =>
      cases hn with
      | cons hu hn =>
        cases hn; cases hv; cases hu
        refine ⟨i, j, rfl, ?_⟩
        rw [max_ite]
        exact k _ O2 _ H q hd same_refl (.int _)) he2) he)
theorem we_min2 (hm : X.mg "min" = none) (h : WE X F a Γ O fun x O1 => WE X F b Γ O1 fun y O2 => ∃ i j, x = .int i ∧ y = .int j ∧ Q (.int (min i j)) O2) (hc : X.calm = true := by rfl) (hg : Gl X "min" := by rfl)
    (he : starEach (a :: [b]) X.env = (false, eval a X.env) :: starEach [b] X.env := by rfl) (he2 : starEach (b :: []) X.env = (false, eval b X.env) :: starEach [] X.env := by rfl) (hpl : (backTo pos (starEach [b] X.env)).any (·.1) = false := by rfl) :
    WE X F (.Call (.Name "min" p) [a, b] [] pos) Γ O Q :=
  we_cal (fun ha => pe_callB (call_min2 hc) hg hm (by decide +kernel) ha (by decide) (by decide) he hpl) (wa_cons (we_imp h fun x O1 h => wa_cons (we_imp h fun y O2 ⟨i, j, e1, e2, q⟩ => wa_nil fun σ H vs R hd hv k => by
    subst e1; subst e2
    cases hv with
    | cons hv hn =>
      cases hn with
      | cons hu hn =>
        cases hn; cases hv; cases hu
        refine ⟨i, j, rfl, ?_⟩
        rw [min_ite]
        exact k _ O2 _ H q hd same_refl (.int _)) he2) he)
/-- all(..), any(..) of a list of truth values -/
theorem we_all (hm : X.mg "all" = none) (h : WE X F a Γ O fun x O1 => ∃ bs : List Bool, Vw x O1 (.lst (bs.map D.bl)) ∧ Q (.bl (bs.all id)) O1) (hc : X.calm = true := by rfl) (hg : Gl X "all" := by rfl) (he : starEach (a :: []) X.env = (false, eval a X.env) :: starEach [] X.env := by rfl) (hpl : (backTo pos (starEach [] X.env)).any (·.1) = false := by rfl) :
    WE X F (.Call (.Name "all" p) [a] [] pos) Γ O Q :=
  we_cal (fun ha => pe_callB (cr_all hc) hg hm (by decide +kernel) ha (by decide) (by decide) he hpl) (wa_cons (we_imp h fun x O1 ⟨bs, w, q⟩ => wa_nil fun σ H vs R hd hv k => by
    cases hv with
    | cons hv hn =>
      cases hn
      obtain ⟨p1, xs, rfl, h1, r1⟩ := w.lst hd.os hv
      have e := of_bls r1
      subst e
      exact ⟨p1, bs, rfl, SqL.of h1, k _ O1 _ H q hd same_refl (.bl _)⟩) he)
theorem we_any (hm : X.mg "any" = none) (h : WE X F a Γ O fun x O1 => ∃ bs : List Bool, Vw x O1 (.lst (bs.map D.bl)) ∧ Q (.bl (bs.any id)) O1) (hc : X.calm = true := by rfl) (hg : Gl X "any" := by rfl) (he : starEach (a :: []) X.env = (false, eval a X.env) :: starEach [] X.env := by rfl) (hpl : (backTo pos (starEach [] X.env)).any (·.1) = false := by rfl) :
    WE X F (.Call (.Name "any" p) [a] [] pos) Γ O Q :=
  we_cal (fun ha => pe_callB (cr_any hc) hg hm (by decide +kernel) ha (by decide) (by decide) he hpl) (wa_cons (we_imp h fun x O1 ⟨bs, w, q⟩ => wa_nil fun σ H vs R hd hv k => by
    cases hv with
    | cons hv hn =>
      cases hn
      obtain ⟨p1, xs, rfl, h1, r1⟩ := w.lst hd.os hv
      have e := of_bls r1
      subst e
      exact ⟨p1, bs, rfl, SqL.of h1, k _ O1 _ H q hd same_refl (.bl _)⟩) he)
theorem we_sum (hm : X.mg "sum" = none) (h : WE X F a Γ O fun x O1 => ∃ ns : List Int, Vw x O1 (.lst (ns.map D.int)) ∧ Q (.int ns.sum) O1) (hc : X.calm = true := by rfl) (hg : Gl X "sum" := by rfl) (he : starEach (a :: []) X.env = (false, eval a X.env) :: starEach [] X.env := by rfl) (hpl : (backTo pos (starEach [] X.env)).any (·.1) = false := by rfl) :
    WE X F (.Call (.Name "sum" p) [a] [] pos) Γ O Q :=
  we_cal (fun ha => pe_callB (cr_sum hc) hg hm (by decide +kernel) ha (by decide) (by decide) he hpl) (wa_cons (we_imp h fun x O1 ⟨bs, w, q⟩ => wa_nil fun σ H vs R hd hv k => by
    cases hv with
    | cons hv hn =>
      cases hn
      obtain ⟨p1, xs, rfl, h1, r1⟩ := w.lst hd.os hv
      have e := of_ints r1
      subst e
      exact ⟨p1, bs, rfl, SqL.of h1, k _ O1 _ H q hd same_refl (.int _)⟩) he)
/-- tuple(a list), list(a list or a tuple) -/
theorem we_tuple (hm : X.mg "tuple" = none) (h : WE X F a Γ O fun x O1 => ∃ ds, (Vw x O1 (.lst ds) ∨ x = .tup ds) ∧ Q (.tup ds) O1) (hg : Gl X "tuple" := by rfl) (he : starEach (a :: []) X.env = (false, eval a X.env) :: starEach [] X.env := by rfl) (hpl : (backTo pos (starEach [] X.env)).any (·.1) = false := by rfl) :
    WE X F (.Call (.Name "tuple" p) [a] [] pos) Γ O Q :=
  we_cal (fun ha => pe_callTy call_tuple_of hg hm (by decide +kernel) ha (by decide) (by decide) he hpl) (wa_cons (we_imp h fun x O1 ⟨ds, w, q⟩ => wa_nil fun σ H vs R hd hv k => by
    cases hv with
    | cons hv hn =>
      cases hn
      rcases w with w | rfl
      · obtain ⟨p1, xs, rfl, h1, r1⟩ := w.lst hd.os hv
        exact ⟨p1, xs, rfl, .inl ⟨SqL.of h1, newT_run q hd r1 k⟩⟩
      · cases hv with
        | tup h1 r1 => exact ⟨_, _, rfl, .inr ⟨(h1.mono stb_same).sq, k _ O1 _ H q hd same_refl (.tup h1 r1)⟩⟩) he)
theorem we_list (hm : X.mg "list" = none) (h : WE X F a Γ O fun x O1 => ∃ ds, (Vw x O1 (.lst ds) ∨ x = .tup ds) ∧ NewL ds O1 Q) (hg : Gl X "list" := by rfl) (he : starEach (a :: []) X.env = (false, eval a X.env) :: starEach [] X.env := by rfl) (hpl : (backTo pos (starEach [] X.env)).any (·.1) = false := by rfl) :
    WE X F (.Call (.Name "list" p) [a] [] pos) Γ O Q :=
  we_cal (fun ha => pe_callTy call_list_of hg hm (by decide +kernel) ha (by decide) (by decide) he hpl) (wa_cons (we_imp h fun x O1 ⟨ds, w, q⟩ => wa_nil fun σ H vs R hd hv k => by
    cases hv with
    | cons hv hn =>
      cases hn
      rcases w with w | rfl
      · obtain ⟨p1, xs, rfl, h1, r1⟩ := w.lst hd.os hv
        exact ⟨p1, xs, rfl, .inl (SqL.of h1), q.run hd r1 k⟩
      · cases hv with
        | tup h1 r1 => exact ⟨_, _, rfl, .inr (h1.mono stb_same).sq, q.run hd r1 k⟩) he)
/-- str(int), int(int or bool), bool(bool) -/
def numI (i : Int) : List Nat := (toString i : String).toList.map Char.toNat
theorem we_strI (hm : X.mg "str" = none) (h : WE X F a Γ O fun x O1 => ∃ i, x = .int i ∧ i.natAbs.log2 < 1920 ∧ Q (.str (numI i)) O1) (hg : Gl X "str" := by rfl) (he : starEach (a :: []) X.env = (false, eval a X.env) :: starEach [] X.env := by rfl) (hpl : (backTo pos (starEach [] X.env)).any (·.1) = false := by rfl) :
    WE X F (.Call (.Name "str" p) [a] [] pos) Γ O Q :=
  we_cal (fun ha => pe_callTy call_str_int hg hm (by decide +kernel) ha (by decide) (by decide) he hpl) (wa_cons (we_imp h fun x O1 ⟨i, e, hz, q⟩ => wa_nil fun σ H vs R hd hv k => by
    subst e
    cases hv with
    | cons hv hn =>
      cases hn; cases hv
      refine ⟨i, rfl, hz, k _ O1 _ H q hd same_refl (rep_str ?_)⟩
      exact PyProof.Rows.signs_ofString (toString i)) he)
theorem we_intB (hm : X.mg "int" = none) (h : WE X F a Γ O fun x O1 => ∃ k, x = .bl k ∧ Q (.int (if k then 1 else 0)) O1) (hg : Gl X "int" := by rfl) (he : starEach (a :: []) X.env = (false, eval a X.env) :: starEach [] X.env := by rfl) (hpl : (backTo pos (starEach [] X.env)).any (·.1) = false := by rfl) :
    WE X F (.Call (.Name "int" p) [a] [] pos) Γ O Q :=
  we_cal (fun ha => pe_callTy call_int1 hg hm (by decide +kernel) ha (by decide) (by decide) he hpl) (wa_cons (we_imp h fun x O1 ⟨i, e, q⟩ => wa_nil fun σ H vs R hd hv k => by
    subst e
    cases hv with
    | cons hv hn =>
      cases hn; cases hv
      exact .inr ⟨i, rfl, k _ O1 _ H q hd same_refl (.int _)⟩) he)
end
end Dl

namespace Dl
open PySem PySem.Spec PyProof.Rows L2

section
variable {K : PySem.W.Frag} {F : Fx} {Γ Γ' : Ga} {O O' : Ow} {σ σ' : L2.St} {H H' : Hp}
theorem Wt.after {Q : Out} {D : Ends} (w : Wt K F Q O H D) (s : Same (hide (ads O) H) (hide (ads O') H')) : Wt K F Q O' H' D :=
  ⟨fun _ _ _ _ q h s' => w.nx _ _ _ _ q h (s.trans s'), fun _ _ _ _ q h s' r => w.rt _ _ _ _ q h (s.trans s') r, fun _ _ _ _ q h s' => w.bk _ _ _ _ q h (s.trans s'), fun _ _ _ _ q h s' => w.ct _ _ _ _ q h (s.trans s')⟩
theorem getElem?_set_some {α : Type} {l : List α} {i j : Nat} {x y : α} (h : (l.set i x)[j]? = some y) : (i = j ∧ i < l.length ∧ x = y) ∨ (i ≠ j ∧ l[j]? = some y) := by
  by_cases e : i = j
  · subst e
    by_cases hl : i < l.length
    · rw [List.getElem?_set_self hl] at h
      exact .inl ⟨rfl, hl, Option.some.inj h⟩
    · rw [List.getElem?_eq_none (by simpa using hl)] at h
      cases h
  · rw [List.getElem?_set_ne e] at h
    exact .inr ⟨e, h⟩
/-- a slot is stored -/
theorem Hd.slot {i : Nat} {d : D} {v : V} (h : Hd K F Γ O σ H) (r : Rep K (stb F O H) v d) : Hd K F (Γ.set i (some d)) O (σ.set i (some v)) H :=
  ⟨by rw [List.length_set, List.length_set]; exact h.len, fun j e q => by
    rcases getElem?_set_some q with ⟨e1, e2, e3⟩ | ⟨e1, e2⟩
    · cases e3
      subst e1
      exact ⟨v, List.getElem?_set_self (by rw [← h.len]; exact e2), r⟩
    · obtain ⟨w, w1, w2⟩ := h.sl j e e2
      exact ⟨w, by rw [List.getElem?_set_ne e1]; exact w1, w2⟩, h.os, h.fr, h.zf⟩
/-- what a slot is said to hold is forgotten -/
theorem Hd.forget {i : Nat} (h : Hd K F Γ O σ H) : Hd K F (Γ.set i none) O σ H :=
  ⟨by rw [List.length_set]; exact h.len, fun j e q => by
    rcases getElem?_set_some q with ⟨e1, e2, e3⟩ | ⟨e1, e2⟩
    · cases e3
    · exact h.sl j e e2, h.os, h.fr, h.zf⟩
end

section
variable {X : Cx} {F : Fx} {Γ : Ga} {O : Ow} {Q : Out} {a b c e : Expr} {st : Stmt} {sts : List Stmt} {pos : Pos}
/-! ### blocks -/
theorem wb_nil (q : Q.nx Γ O) : WB X F [] Γ O Q := pss_weak pss_nil fun E σ H ⟨hd, w⟩ => w.nx _ _ _ _ q hd same_refl
theorem wb_one (h : WS X F st Γ O Q) : WB X F [st] Γ O Q := pss_one h
theorem wb_cons (h : WS X F st Γ O { nx := fun Γ' O' => WB X F sts Γ' O' Q, rt := Q.rt, bk := Q.bk, ct := Q.ct }) : WB X F (st :: sts) Γ O Q :=
  pss_weak (pss_cons h (pss_any (sts := sts))) fun E σ H ⟨hd, w⟩ => ⟨hd, fun Γ' O' σ' H' q hd' s' => ⟨_, q, hd', w.after s'⟩, w.rt, w.bk, w.ct⟩
theorem ws_imp {Q' : Out} (h : WS X F st Γ O Q') (h1 : ∀ Γ' O', Q'.nx Γ' O' → Q.nx Γ' O') (h2 : ∀ d O', Q'.rt d O' → Q.rt d O') (h3 : ∀ Γ' O', Q'.bk Γ' O' → Q.bk Γ' O') (h4 : ∀ Γ' O', Q'.ct Γ' O' → Q.ct Γ' O') : WS X F st Γ O Q :=
  ps_weak h fun E σ H ⟨hd, w⟩ => ⟨hd, fun _ _ _ _ q => w.nx _ _ _ _ (h1 _ _ q), fun _ _ _ _ q => w.rt _ _ _ _ (h2 _ _ q), fun _ _ _ _ q => w.bk _ _ _ _ (h3 _ _ q), fun _ _ _ _ q => w.ct _ _ _ _ (h4 _ _ q)⟩
/-- a word between a statement and the rest: what follows is shown once -/
theorem wb_cut (M : Ga → Ow → Prop) (h : WS X F st Γ O { nx := M, rt := Q.rt, bk := Q.bk, ct := Q.ct }) (h2 : ∀ Γ' O', M Γ' O' → WB X F sts Γ' O' Q) : WB X F (st :: sts) Γ O Q :=
  wb_cons (ws_imp h h2 (fun _ _ q => q) (fun _ _ q => q) fun _ _ q => q)
/-- ghost steps: the same slots and heap, otherwise seen -/
theorem wb_see {Γ' : Ga} {O' : Ow} (h : WB X F sts Γ' O' Q) (k : ∀ σ H, Hd X.K F Γ O σ H → Hd X.K F Γ' O' σ H ∧ Same (hide (ads O) H) (hide (ads O') H)) : WB X F sts Γ O Q :=
  pss_weak h fun E σ H ⟨hd, w⟩ => by
    obtain ⟨h1, h2⟩ := k σ H hd
    exact ⟨h1, w.after h2⟩
theorem wb_recell (k : Nat) {p : Addr} {c c' : OC} (hk : O[k]? = some (p, c)) (hc : ∀ S H, OwOk X.K S H p c → OwOk X.K S H p c') (h : WB X F sts Γ (O.set k (p, c')) Q) : WB X F sts Γ O Q :=
  wb_see h fun σ H hd => ⟨hd.recell hk (hc _ _ (hd.os.ow p c (mem_of_get hk))), by rw [ads_set hk]; exact same_refl⟩
/-- a cell of which something is told is opened -/
theorem wb_open (k : Nat) {p : Addr} {φ : List D → Prop} (hk : O[k]? = some (p, .pr φ)) (h : ∀ ds, φ ds → WB X F sts Γ (O.set k (p, .lst ds)) Q) : WB X F sts Γ O Q :=
  ⟨fun pins s σ H E I ⟨hd, w⟩ => by
    obtain ⟨xs, ds, h1, h2, h3⟩ := hd.os.ow p _ (mem_of_get hk)
    exact (h ds h3).run pins s σ H E I ⟨hd.recell hk ⟨xs, h1, h2⟩, w.after (by rw [ads_set hk]; exact same_refl)⟩⟩
theorem pr_close {K : PySem.W.Frag} {p : Addr} {φ : List D → Prop} {ds : List D} (h : φ ds) : ∀ S H, OwOk K S H p (.lst ds) → OwOk K S H p (.pr φ) := fun _ _ ⟨xs, h1, h2⟩ => ⟨xs, ds, h1, h2, h⟩
theorem pr_imp {K : PySem.W.Frag} {p : Addr} {φ ψ : List D → Prop} (h : ∀ ds, φ ds → ψ ds) : ∀ S H, OwOk K S H p (.pr φ) → OwOk K S H p (.pr ψ) := fun _ _ ⟨xs, ds, h1, h2, h3⟩ => ⟨xs, ds, h1, h2, h ds h3⟩
theorem map_eraseIdx' {α β : Type} (f : α → β) : ∀ (l : List α) (k : Nat), (l.eraseIdx k).map f = (l.map f).eraseIdx k
  | [], _ => rfl
  | x :: r, 0 => rfl
  | x :: r, k + 1 => by
    show f x :: (r.eraseIdx k).map f = f x :: (r.map f).eraseIdx k
    rw [map_eraseIdx' f r k]
/-- an owned list becomes a value of the slot that holds it -/
theorem Hd.freeze {K : PySem.W.Frag} {σ : L2.St} {H : Hp} {p : Addr} {xs : List D} {i k : Nat} (hd : Hd K F Γ O σ H) (hi : Γ[i]? = some (some (.at p))) (hk : O[k]? = some (p, .lst xs)) :
    Hd K F (Γ.set i (some (.lst xs))) (O.eraseIdx k) σ H ∧ Same (hide (ads O) H) (hide (ads (O.eraseIdx k)) H) := by
  have hm := mem_of_get hk
  obtain ⟨vs, h1, h2⟩ := hd.os.ow p _ hm
  have hlt := (List.getElem?_eq_some_iff.mp hk).1
  have ea : ads (O.eraseIdx k) = (ads O).eraseIdx k := map_eraseIdx' _ _ _
  have ek : (ads O)[k]? = some p := by unfold ads; rw [List.getElem?_map, hk]; rfl
  have sub : ∀ a, a ∈ ads (O.eraseIdx k) → a ∈ ads O := fun a h => by rw [ea] at h; exact List.mem_of_mem_eraseIdx h
  have np : p ∉ ads (O.eraseIdx k) := fun h => by
    rw [ea] at h
    obtain ⟨j, hj⟩ := List.getElem?_of_mem h
    rw [List.getElem?_eraseIdx] at hj
    have nd := hd.os.nd
    have ek' := List.getElem?_eq_some_iff.mp ek
    by_cases hjk : j < k
    · rw [if_pos hjk] at hj
      have hj' := List.getElem?_eq_some_iff.mp hj
      have := (List.getElem_inj nd).mp (hj'.2.trans ek'.2.symm)
      omega
    · rw [if_neg hjk] at hj
      have hj' := List.getElem?_eq_some_iff.mp hj
      have := (List.getElem_inj nd).mp (hj'.2.trans ek'.2.symm)
      omega
  have s : Same (hide (ads O) H) (hide (ads (O.eraseIdx k)) H) := fun a o h => by
    obtain ⟨q1, q2⟩ := hide_some h
    exact hide_of (fun z => q1 (sub a z)) q2
  have pz : p ∉ F.Z := fun z => by
    obtain ⟨q1, o, q2⟩ := hd.zf p z
    have := (hide_some (hd.fr p o (hide_of q1 q2))).1
    exact this (mem_ads hm)
  refine ⟨⟨by rw [List.length_set]; exact hd.len, fun j d q => ?_, ⟨by rw [ea]; exact hd.os.nd.eraseIdx _, fun a c m => (hd.os.ow a c (List.mem_of_mem_eraseIdx m)).mono (ss s) rfl⟩, hd.fr.trans s, hd.zf⟩, s⟩
  rcases getElem?_set_some q with ⟨e1, e2, e3⟩ | ⟨e1, e2⟩
  · cases e3
    subst e1
    obtain ⟨w, w1, w2⟩ := hd.sl i _ hi
    cases w2
    exact ⟨_, w1, .lst (stb_of pz np h1) (h2.mono (ss s))⟩
  · obtain ⟨w, w1, w2⟩ := hd.sl j d e2
    exact ⟨w, w1, w2.mono (ss s)⟩
theorem wb_freeze (i k : Nat) {p : Addr} {xs : List D} (hi : Γ[i]? = some (some (.at p))) (hk : O[k]? = some (p, .lst xs)) (h : WB X F sts (Γ.set i (some (.lst xs))) (O.eraseIdx k) Q) : WB X F sts Γ O Q :=
  wb_see h fun σ H hd => hd.freeze hi hk
theorem wb_forget (i : Nat) (h : WB X F sts (Γ.set i none) O Q) : WB X F sts Γ O Q := wb_see h fun σ H hd => ⟨hd.forget, same_refl⟩

/-! ### statements -/
theorem ws_pass (q : Q.nx Γ O) : WS X F (.Pass pos) Γ O Q := ps_weak ps_pass fun E σ H ⟨hd, w⟩ => w.nx _ _ _ _ q hd same_refl
theorem ws_break (q : Q.bk Γ O) : WS X F (.Break pos) Γ O Q := ps_weak ps_break fun E σ H ⟨hd, w⟩ => w.bk _ _ _ _ q hd same_refl
theorem ws_cont (q : Q.ct Γ O) : WS X F (.Continue pos) Γ O Q := ps_weak ps_continue fun E σ H ⟨hd, w⟩ => w.ct _ _ _ _ q hd same_refl
theorem ws_ret (h : WE X F e Γ O Q.rt) : WS X F (.Return (some e) pos) Γ O Q := ps_weak (ps_ret h) fun E σ H ⟨hd, w⟩ => ⟨hd, fun d O' v H' q hd' s' r' => w.rt _ _ _ _ q hd'.rt s' r'⟩
theorem ws_retN (q : Q.rt .non O) : WS X F (.Return none pos) Γ O Q := ps_weak ps_retN fun E σ H ⟨hd, w⟩ => w.rt _ _ _ _ q hd.rt same_refl .non
theorem ws_expr (h : WE X F e Γ O fun _ O' => Q.nx Γ O') (hs : swapsWith e none pos.line X.env = pure false := by rfl) : WS X F (.Expr e pos) Γ O Q :=
  ps_weak (ps_expr h hs) fun E σ H ⟨hd, w⟩ => ⟨hd, fun d O' v H' q hd' s' r' => w.nx _ _ _ _ q hd' s'⟩
theorem ws_if {aa bb : List Stmt} (h : WT X F c Γ O fun k O1 => (k = true → WB X F aa Γ O1 Q) ∧ (k = false → WB X F bb Γ O1 Q)) : WS X F (.If c aa bb pos) Γ O Q :=
  ps_weak (ps_if h (pss_any (sts := aa)) (pss_any (sts := bb))) fun E σ H ⟨hd, w⟩ => ⟨hd, fun k O1 H1 q hd1 s1 => by
    cases k with
    | true =>
      show tAnyS X aa E σ H1
      exact ⟨_, q.1 rfl, hd1, w.after s1⟩
    | false =>
      show tAnyS X bb E σ H1
      exact ⟨_, q.2 rfl, hd1, w.after s1⟩⟩
theorem ws_set (i : Nat) {x : Str} {p' : Pos} (h : WE X F e Γ O fun d O' => Q.nx (Γ.set i (some d)) O') (hN : X.N.Nodup) (hi : X.N[i]? = some x := by rfl) (hx : Loc X.env.scope x := by first | exact Or.inl rfl | exact Or.inr rfl)
    (hs : swapsWith e (some (.Name x p')) pos.line X.env = pure false := by rfl) (hf : X.fn x = true ∨ X.env.scope.names.lookup x = some .local := by first | exact .inl rfl | exact .inr rfl) : WS X F (.Assign [.Name x p'] e pos) Γ O Q :=
  ps_weak (ps_set hN hi hx h hs hf) fun E σ H ⟨hd, w⟩ => ⟨hd, fun d O' v H' q hd' s' r' => w.nx _ _ _ _ q (hd'.slot r') s'⟩
theorem ws_aug (i : Nat) {x : Str} {p' : Pos} {op : Operator} {r : R2} {d : D} (ho : OpR X (inplaceOp op) r) (hΓ : Γ[i]? = some (some d)) (h : WE X F e Γ O fun y O1 => OpD X F r d y Γ O1 fun z O2 => Q.nx (Γ.set i (some z)) O2) (hN : X.N.Nodup)
    (hi : X.N[i]? = some x := by rfl) (hx : Loc X.env.scope x := by first | exact Or.inl rfl | exact Or.inr rfl) (hf : X.fn x = true ∨ X.env.scope.names.lookup x = some .local := by first | exact .inl rfl | exact .inr rfl) : WS X F (.AugAssign (.Name x p') op e pos) Γ O Q :=
  ps_weak (ps_aug hN hi hx h ho hf) fun E σ H ⟨hd, w⟩ => by
    obtain ⟨v, hv, rv⟩ := hd.sl i d hΓ
    exact ⟨v, hv, hd, fun y O1 u H1 q hd1 s1 r1 => q σ H1 v u _ hd1 (rv.mono (ss s1)) r1 fun z O2 w2 H2 q2 hd2 s2 r2 => w.nx _ _ _ _ q2 (hd2.slot r2) (s1.trans s2)⟩
theorem ws_augI {f : Int → Int → Int} {op : Operator} (i : Nat) {x : Str} {p' : Pos} {m : Int} (ho : OpR X (inplaceOp op) (rI0 fun i j => .int (f i j))) (hΓ : Γ[i]? = some (some (.int m))) (h : WE X F e Γ O fun y O1 => ∃ n, y = .int n ∧ Q.nx (Γ.set i (some (.int (f m n)))) O1) (hN : X.N.Nodup)
    (hi : X.N[i]? = some x := by rfl) (hx : Loc X.env.scope x := by first | exact Or.inl rfl | exact Or.inr rfl) (hf : X.fn x = true ∨ X.env.scope.names.lookup x = some .local := by first | exact .inl rfl | exact .inr rfl) : WS X F (.AugAssign (.Name x p') op e pos) Γ O Q :=
  ws_aug i ho hΓ (we_imp h fun y O1 ⟨n, e1, q⟩ => by subst e1; exact opd_I0 (g := f) q) hN hi hx hf
theorem ws_augS (i : Nat) {x : Str} {p' : Pos} {m : List Nat} (hΓ : Γ[i]? = some (some (.str m))) (h : WE X F e Γ O fun y O1 => ∃ n, y = .str n ∧ m.length + n.length ≤ sizeLine ∧ Q.nx (Γ.set i (some (.str (m ++ n)))) O1) (hN : X.N.Nodup)
    (hi : X.N[i]? = some x := by rfl) (hx : Loc X.env.scope x := by first | exact Or.inl rfl | exact Or.inr rfl) (hf : X.fn x = true ∨ X.env.scope.names.lookup x = some .local := by first | exact .inl rfl | exact .inr rfl) : WS X F (.AugAssign (.Name x p') .Add e pos) Γ O Q :=
  ws_aug i iop_add_str hΓ (we_imp h fun y O1 ⟨n, e1, hz, q⟩ => by
    subst e1
    exact fun σ H v u R hd hv hu k => by
      cases hv; cases hu
      refine ⟨sOf m, sOf n, rfl, rfl, by rw [sOf_len, sOf_len]; exact hz, ?_⟩
      rw [sOf_app]
      exact k _ O1 _ H q hd same_refl (.str _)) hN hi hx hf

/-! ### targets -/
/-- what is stored at the slots vs alone -/
def tGd (K : PySem.W.Frag) (F : Fx) (vs : List Nat) (d : D) (Γ : Ga) (O : Ow) (Q : Ga → Ow → Prop) : TG := fun v σ H R => Hd K F Γ O σ H ∧ Rep K (stb F O H) v d ∧
  ∀ Γ' O' σ' H', Q Γ' O' → Hd K F Γ' O' σ' H' → Same (hide (ads O) H) (hide (ads O') H') → ((∀ i, i ∉ vs → σ'[i]? = σ[i]?) ∧ σ'.length = σ.length) → R σ' H'
def WG (X : Cx) (F : Fx) (vs : List Nat) (tg : Expr) (d : D) (Γ : Ga) (O : Ow) (Q : Ga → Ow → Prop) : Prop := PG X tg (tGd X.K F vs d Γ O Q)
theorem pg_weak {tg : Expr} {t u : TG} (h : PG X tg t) (k : ∀ v σ H R, u v σ H R → t v σ H R) : PG X tg u := ⟨fun pins s σ H v w Q I r q => h.run pins s σ H v w Q I r (k _ _ _ _ q)⟩
def tAnyG (X : Cx) (tg : Expr) : TG := fun v σ H R => ∃ t, PG X tg t ∧ t v σ H R
theorem pg_any {tg : Expr} : PG X tg (tAnyG X tg) := ⟨fun pins s σ H v w Q I r ⟨t, p, q⟩ => p.run pins s σ H v w Q I r q⟩
theorem wg_name (i : Nat) {x : Str} {d : D} {vs : List Nat} {Qg : Ga → Ow → Prop} (q : Qg (Γ.set i (some d)) O) (hN : X.N.Nodup) (hv : i ∈ vs := by decide) (hi : X.N[i]? = some x := by rfl) (hx : Loc X.env.scope x := by first | exact Or.inl rfl | exact Or.inr rfl)
    (hf : X.fn x = true ∨ X.env.scope.names.lookup x = some .local := by first | exact .inl rfl | exact .inr rfl) : WG X F vs (.Name x pos) d Γ O Qg :=
  pg_weak (pg_name hN hi hx hf) fun v σ H R ⟨hd, r, k⟩ => k _ O _ H q (hd.slot r) same_refl ⟨fun j hj => List.getElem?_set_ne (fun z : i = j => hj (z ▸ hv)), List.length_set⟩
theorem wg_tup2 {t1 t2 : Expr} {kk : Nat} {d1 d2 : D} {vs : List Nat} {Qg : Ga → Ow → Prop} (h : WG X F vs t1 d1 Γ O fun Γ1 O1 => WG X F vs t2 d2 Γ1 O1 Qg) (hc : X.calm = true := by rfl)
    (hs1 : (assignEach (t1 :: [t2]) X.env).map (·.2) = assign t1 X.env :: (assignEach [t2] X.env).map (·.2) := by rfl) (hs2 : (assignEach (t2 :: []) X.env).map (·.2) = assign t2 X.env :: (assignEach [] X.env).map (·.2) := by rfl)
    (hn : (assignEach [t1, t2] X.env).length = 2 := by rfl) (hst : (assignEach [t1, t2] X.env).findIdx? (·.1) = none := by rfl) : WG X F vs (.Tuple [t1, t2] kk pos) (.tup [d1, d2]) Γ O Qg :=
  pg_weak (pg_tup (n := 2) hc (pgs_cons h (pgs_cons (pg_any (tg := t2)) pgs_nil hs2) hs1) hn hst) fun v σ H R ⟨hd, r, k⟩ => by
    cases r with
    | @tup a xs _ h1 h2 =>
      cases h2 with
      | cons r1 h2 =>
        cases h2 with
        | cons r2 h2 =>
          cases h2
          refine ⟨a, _, rfl, (h1.mono stb_same).sq, rfl, _, _, rfl, hd, r1, fun Γ1 O1 σ1 H1 q1 hd1 s1 e1 => ⟨_, _, rfl, ⟨_, q1, hd1, r2.mono (ss s1), fun Γ2 O2 σ2 H2 q2 hd2 s2 e2 => ⟨rfl, k Γ2 O2 σ2 H2 q2 hd2 (s1.trans s2) ⟨fun i hi => (e2.1 i hi).trans (e1.1 i hi), e2.2.trans e1.2⟩⟩⟩⟩⟩
theorem wg_tup3 {t1 t2 t3 : Expr} {kk : Nat} {d1 d2 d3 : D} {vs : List Nat} {Qg : Ga → Ow → Prop} (h : WG X F vs t1 d1 Γ O fun Γ1 O1 => WG X F vs t2 d2 Γ1 O1 fun Γ2 O2 => WG X F vs t3 d3 Γ2 O2 Qg) (hc : X.calm = true := by rfl)
    (hs1 : (assignEach (t1 :: [t2, t3]) X.env).map (·.2) = assign t1 X.env :: (assignEach [t2, t3] X.env).map (·.2) := by rfl) (hs2 : (assignEach (t2 :: [t3]) X.env).map (·.2) = assign t2 X.env :: (assignEach [t3] X.env).map (·.2) := by rfl)
    (hs3 : (assignEach (t3 :: []) X.env).map (·.2) = assign t3 X.env :: (assignEach [] X.env).map (·.2) := by rfl)
    (hn : (assignEach [t1, t2, t3] X.env).length = 3 := by rfl) (hst : (assignEach [t1, t2, t3] X.env).findIdx? (·.1) = none := by rfl) : WG X F vs (.Tuple [t1, t2, t3] kk pos) (.tup [d1, d2, d3]) Γ O Qg :=
  pg_weak (pg_tup (n := 3) hc (pgs_cons h (pgs_cons (pg_any (tg := t2)) (pgs_cons (pg_any (tg := t3)) pgs_nil hs3) hs2) hs1) hn hst) fun v σ H R ⟨hd, r, k⟩ => by
    cases r with
    | @tup a xs _ h1 h2 =>
      cases h2 with
      | cons r1 h2 =>
        cases h2 with
        | cons r2 h2 =>
          cases h2 with
          | cons r3 h2 =>
            cases h2
            refine ⟨a, _, rfl, (h1.mono stb_same).sq, rfl, _, _, rfl, hd, r1, fun Γ1 O1 σ1 H1 q1 hd1 s1 e1 => ⟨_, _, rfl, ⟨_, q1, hd1, r2.mono (ss s1), fun Γ2 O2 σ2 H2 q2 hd2 s2 e2 => ⟨_, _, rfl, ⟨_, q2, hd2, (r3.mono (ss s1)).mono (ss s2), fun Γ3 O3 σ3 H3 q3 hd3 s3 e3 =>
              ⟨rfl, k Γ3 O3 σ3 H3 q3 hd3 (s1.trans (s2.trans s3)) ⟨fun i hi => (e3.1 i hi).trans ((e2.1 i hi).trans (e1.1 i hi)), e3.2.trans (e2.2.trans e1.2)⟩⟩⟩⟩⟩⟩⟩
/-- a, b = e, e a tuple -/
theorem ws_unp {tg : Expr} {vs : List Nat} (h : WE X F e Γ O fun d O1 => WG X F vs tg d Γ O1 fun Γ2 O2 => Q.nx Γ2 O2) (hs : swapsWithSole [tg] e pos.line X.env = pure false := by rfl) (hw : swappedStores [tg] e X.env = pure none := by rfl)
    (h1 : (assignEach [tg] X.env).map (·.2) = [assign tg X.env] := by rfl) : WS X F (.Assign [tg] e pos) Γ O Q :=
  ps_weak (ps_asg h (pg_any (tg := tg)) hs hw h1) fun E σ H ⟨hd, w⟩ => ⟨hd, fun d O1 v H1 q hd1 s1 r1 => ⟨_, q, hd1, r1, fun Γ2 O2 σ2 H2 q2 hd2 s2 _ => w.nx _ _ _ _ q2 hd2 (s1.trans s2)⟩⟩
/-- a, b = e1, e2 -/
theorem ws_par (i j : Nat) {x y : Str} {px py pt : Pos} {kt k2 pt2} (h : WE X F a Γ O fun d1 O1 => WE X F b Γ O1 fun d2 O2 => Q.nx ((Γ.set i (some d1)).set j (some d2)) O2) (hN : X.N.Nodup) (hij : i ≠ j := by decide)
    (hi : X.N[i]? = some x := by rfl) (hj : X.N[j]? = some y := by rfl) (hx : X.env.scope.names.lookup x = some .local := by rfl) (hy : X.env.scope.names.lookup y = some .local := by rfl) (hc : X.calm = true := by rfl)
    (hw : swappedStores [.Tuple [.Name x px, .Name y py] kt pt] (.Tuple [a, b] k2 pt2) X.env = pure (some [x, y]) := by rfl)
    (hs : swapsWithSole [.Tuple [.Name x px, .Name y py] kt pt] (.Tuple [a, b] k2 pt2) pos.line X.env = pure false := by rfl)
    (he : starEach (a :: [b]) X.env = (false, eval a X.env) :: starEach [b] X.env := by rfl) (he2 : starEach (b :: []) X.env = (false, eval b X.env) :: starEach [] X.env := by rfl) :
    WS X F (.Assign [.Tuple [.Name x px, .Name y py] kt pt] (.Tuple [a, b] k2 pt2) pos) Γ O Q :=
  ps_weak (ps_par (i := i) (j := j) hc hN hi hj hij hx hy (show PA X [a, b] (tA X.K F Γ O fun ds O2 => ∃ d1 d2, ds = [d1, d2] ∧ Q.nx ((Γ.set i (some d1)).set j (some d2)) O2) from
    wa_cons (we_imp h fun d1 O1 h => wa_cons (we_imp h fun d2 O2 q => wa_nil ⟨d1, d2, rfl, q⟩) he2) he) hw hs) fun E σ H ⟨hd, w⟩ => ⟨hd, fun ds O2 vs H2 ⟨d1, d2, e, q⟩ hd2 s2 r2 => by
    subst e
    cases r2 with
    | cons r1 r2 =>
      cases r2 with
      | cons r3 r2 =>
        cases r2
        exact ⟨_, _, rfl, w.nx _ _ _ _ q ((hd2.slot r1).slot r3) s2⟩⟩
end
end Dl

namespace Dl
open PySem PySem.Spec PyProof.Rows L2 RZ

/-! ### what is walked -/
/-- J walks ds, from the state O1, H1 on, while Ke stands -/
structure Wlk (K : PySem.W.Frag) (F : Fx) (J : It) (ds : List D) (Ke : Ow → Prop) (O1 : Ow) (H1 : Hp) : Prop where
  go : ∀ i d O H, ds[i]? = some d → Ke O → OwsOk K F O H → Same (hide (ads O1) H1) (hide (ads O) H) → J.go i H
  yld : ∀ i d Γ O σ H x H', ds[i]? = some d → Ke O → Hd K F Γ O σ H → Same (hide (ads O1) H1) (hide (ads O) H) → J.yld i H x H' → Hd K F Γ O σ H' ∧ Same (hide (ads O) H) (hide (ads O) H') ∧ Rep K (stb F O H') x d
  stop : ∀ i O H, ds.length ≤ i → Ke O → OwsOk K F O H → Same (hide (ads O1) H1) (hide (ads O) H) → J.stop i H
abbrev QI := List D → (Ow → Prop) → Ow → Prop
def tId (K : PySem.W.Frag) (F : Fx) (Γ : Ga) (O : Ow) (Q : QI) : TI := fun σ H R => Hd K F Γ O σ H ∧
  ∀ ds Ke O1 H1 J, Q ds Ke O1 → Hd K F Γ O1 σ H1 → Same (hide (ads O) H) (hide (ads O1) H1) → (∀ F' : Fx, Same (stb F O1 H1) (stb F' O1 H1) → Wlk K F' J ds Ke O1 H1) → R J H1
def WI (X : Cx) (F : Fx) (tg iter : Expr) (Γ : Ga) (O : Ow) (Q : QI) : Prop := PI X tg iter (tId X.K F Γ O Q)
theorem pi_weak {X : Cx} {tg iter : Expr} {t u : TI} (h : PI X tg iter t) (k : ∀ σ H R, u σ H R → t σ H R) : PI X tg iter u := ⟨fun pins s σ H R I q => h.run pins s σ H R I (k _ _ _ q)⟩
abbrev Free : Ow → Prop := fun _ => True
def rangeD (lo : Int) (n : Nat) : List D := (List.range n).map fun i => D.int (lo + (i : Nat))
def strD (l : List Nat) : List D := l.map fun c => D.str [c]
theorem rangeD_get {lo : Int} {n i : Nat} {d : D} (h : (rangeD lo n)[i]? = some d) : i < n ∧ d = .int (lo + (i : Nat)) := by
  unfold rangeD at h
  rw [List.getElem?_map] at h
  by_cases hi : i < n
  · rw [List.getElem?_range hi] at h
    exact ⟨hi, (Option.some.inj h).symm⟩
  · rw [List.getElem?_eq_none (by simpa using hi)] at h
    cases h
theorem rangeD_len (lo : Int) (n : Nat) : (rangeD lo n).length = n := by simp [rangeD]

section
variable {K : PySem.W.Frag} {F : Fx}
theorem wlk_list {x : D} {ds : List D} {a : Addr} {O1 : Ow} {H1 : Hp} (r : Rep K (stb F O1 H1) (.ref a) x) : Wlk K F (Itl K a) ds (fun O => Vw x O (.lst ds)) O1 H1 := by
  have at_ : ∀ O H, Vw x O (.lst ds) → OwsOk K F O H → Same (hide (ads O1) H1) (hide (ads O) H) → ∃ xs, H a = some (.lst xs) ∧ Reps K (stb F O H) xs ds := fun O H w os s => by
    obtain ⟨a', xs, e, h1, h2⟩ := w.lst os (r.mono (ss s))
    cases e
    exact ⟨xs, h1, h2⟩
  refine ⟨fun i d O H hi w os s => ?_, fun i d Γ O σ H v H' hi w hd s y => ?_, fun i O H hi w os s => ?_⟩
  · obtain ⟨xs, h1, h2⟩ := at_ O H w os s
    obtain ⟨v, h3, h4⟩ := h2.get hi
    exact ⟨xs, v, SqL.of h1, h3⟩
  · obtain ⟨xs, h1, h2⟩ := at_ O H w hd.os s
    obtain ⟨e, y⟩ := y
    subst e
    obtain ⟨u, h3, h4⟩ := h2.get hi
    have := y xs (SqL.of h1)
    rw [h3] at this
    cases this
    exact ⟨hd, same_refl, h4⟩
  · obtain ⟨xs, h1, h2⟩ := at_ O H w os s
    exact ⟨xs, SqL.of h1, by rw [h2.length]; exact hi⟩
theorem wlk_tup {ds : List D} {a : Addr} {O1 : Ow} {H1 : Hp} (r : Rep K (stb F O1 H1) (.ref a) (.tup ds)) : Wlk K F (Itt K a) ds Free O1 H1 := by
  cases r with
  | @tup _ xs _ h1 h2 =>
    refine ⟨fun i d O H hi w os s => ?_, fun i d Γ O σ H v H' hi w hd s y => ?_, fun i O H hi w os s => ?_⟩
    · obtain ⟨v, h3, h4⟩ := h2.get hi
      exact ⟨xs, v, ((h1.mono (ss s)).mono stb_same).sq, h3⟩
    · obtain ⟨e, y⟩ := y
      subst e
      obtain ⟨u, h3, h4⟩ := h2.get hi
      have := y xs ((h1.mono (ss s)).mono stb_same).sq
      rw [h3] at this
      cases this
      exact ⟨hd, same_refl, h4.mono (ss s)⟩
    · exact ⟨xs, ((h1.mono (ss s)).mono stb_same).sq, by rw [h2.length]; exact hi⟩
theorem wlk_range {lo : Int} {n : Nat} {O1 : Ow} {H1 : Hp} : Wlk K F (Itr lo n) (rangeD lo n) Free O1 H1 :=
  ⟨fun i d O H hi w os s => (rangeD_get hi).1, fun i d Γ O σ H v H' hi w hd s y => by
    obtain ⟨e, y⟩ := y
    subst e y
    rw [(rangeD_get hi).2]
    exact ⟨hd, same_refl, .int _⟩, fun i O H hi w os s => by rw [rangeD_len] at hi; exact hi⟩
theorem wlk_str {l : List Nat} {O1 : Ow} {H1 : Hp} : Wlk K F (Its (sOf l)) (strD l) Free O1 H1 := by
  have len : (sOf l).cps.size = l.length := by simp [sOf]
  refine ⟨fun i d O H hi w os s => ?_, fun i d Γ O σ H v H' hi w hd s y => ?_, fun i O H hi w os s => ?_⟩
  · have := (List.getElem?_eq_some_iff.mp hi).1
    show i < (sOf l).cps.size
    rw [len]
    simpa [strD] using this
  · obtain ⟨e, c, y1, y2⟩ := y
    subst e y2
    unfold strD at hi
    rw [List.getElem?_map] at hi
    have y1' : l[i]? = some c := by simpa [sOf] using y1
    rw [y1'] at hi
    cases hi
    exact ⟨hd, same_refl, .str _⟩
  · show (sOf l).cps.size ≤ i
    rw [len]
    simpa [strD] using hi
def zipD (xs ys : List D) : List D := (xs.zip ys).map fun p => D.tup [p.1, p.2]
theorem zipD_get {xs ys : List D} {i : Nat} {d : D} (h : (zipD xs ys)[i]? = some d) : ∃ x y, xs[i]? = some x ∧ ys[i]? = some y ∧ d = .tup [x, y] := by
  unfold zipD at h
  rw [List.getElem?_map] at h
  cases e : (xs.zip ys)[i]? with
  | none => rw [e] at h; cases h
  | some p =>
    rw [e] at h
    obtain ⟨h1, h2⟩ := List.getElem?_zip_eq_some.mp e
    exact ⟨_, _, h1, h2, (Option.some.inj h).symm⟩
theorem zipD_len (xs ys : List D) : (zipD xs ys).length = min xs.length ys.length := by simp [zipD]
theorem pair_new {Γ : Ga} {O : Ow} {σ : L2.St} {H : Hp} {T : Addr} {v1 v2 : V} {d1 d2 : D} (hd : Hd K F Γ O σ H) (hT : H T = none) (r1 : Rep K (stb F O H) v1 d1) (r2 : Rep K (stb F O H) v2 d2) :
    Hd K F Γ O σ (upd H T (.tup [v1, v2])) ∧ Same (hide (ads O) H) (hide (ads O) (upd H T (.tup [v1, v2]))) ∧ Rep K (stb F O (upd H T (.tup [v1, v2]))) (.ref T) (.tup [d1, d2]) :=
  ⟨hd.new hT, same_hide_new hT, .tup (.inl (stb_of (hd.nz hT) (hd.os.ne hT) upd_same)) (.cons (r1.mono (ss (same_hide_new hT))) (.cons (r2.mono (ss (same_hide_new hT))) .nil))⟩
theorem wlk_zipL {x y : D} {xs ys : List D} {a b : Addr} {O1 : Ow} {H1 : Hp} (r1 : Rep K (stb F O1 H1) (.ref a) x) (r2 : Rep K (stb F O1 H1) (.ref b) y) :
    Wlk K F (Itz K a b) (zipD xs ys) (fun O => Vw x O (.lst xs) ∧ Vw y O (.lst ys)) O1 H1 := by
  have at1 : ∀ O H, Vw x O (.lst xs) → OwsOk K F O H → Same (hide (ads O1) H1) (hide (ads O) H) → ∃ vs, H a = some (.lst vs) ∧ Reps K (stb F O H) vs xs := fun O H w os s => by
    obtain ⟨a', vs, e, h1, h2⟩ := w.lst os (r1.mono (ss s))
    cases e
    exact ⟨vs, h1, h2⟩
  have at2 : ∀ O H, Vw y O (.lst ys) → OwsOk K F O H → Same (hide (ads O1) H1) (hide (ads O) H) → ∃ vs, H b = some (.lst vs) ∧ Reps K (stb F O H) vs ys := fun O H w os s => by
    obtain ⟨a', vs, e, h1, h2⟩ := w.lst os (r2.mono (ss s))
    cases e
    exact ⟨vs, h1, h2⟩
  refine ⟨fun i d O H hi w os s => ?_, fun i d Γ O σ H v H' hi w hd s z => ?_, fun i O H hi w os s => ?_⟩
  · obtain ⟨d1, d2, g1, g2, rfl⟩ := zipD_get hi
    obtain ⟨vs, h1, h2⟩ := at1 O H w.1 os s
    obtain ⟨ws, h3, h4⟩ := at2 O H w.2 os s
    obtain ⟨v1, e1, _⟩ := h2.get g1
    obtain ⟨v2, e2, _⟩ := h4.get g2
    exact ⟨vs, ws, v1, v2, SqL.of h1, SqL.of h3, e1, e2⟩
  · obtain ⟨d1, d2, g1, g2, rfl⟩ := zipD_get hi
    obtain ⟨vs, h1, h2⟩ := at1 O H w.1 hd.os s
    obtain ⟨ws, h3, h4⟩ := at2 O H w.2 hd.os s
    obtain ⟨v1, e1, f1⟩ := h2.get g1
    obtain ⟨v2, e2, f2⟩ := h4.get g2
    obtain ⟨T, u1, u2, rfl, hT, rfl, y1, y2⟩ := z
    have q1 := y1 vs (SqL.of h1)
    have q2 := y2 ws (SqL.of h3)
    rw [e1] at q1; rw [e2] at q2
    cases q1; cases q2
    exact pair_new hd hT f1 f2
  · obtain ⟨vs, h1, h2⟩ := at1 O H w.1 os s
    obtain ⟨ws, h3, h4⟩ := at2 O H w.2 os s
    refine ⟨vs, ws, SqL.of h1, SqL.of h3, ?_⟩
    rw [zipD_len] at hi
    rw [h2.length, h4.length]
    omega
theorem wlk_zipT {xs ys : List D} {a b : Addr} {O1 : Ow} {H1 : Hp} (r1 : Rep K (stb F O1 H1) (.ref a) (.tup xs)) (r2 : Rep K (stb F O1 H1) (.ref b) (.tup ys)) :
    Wlk K F (ItzT K a b) (zipD xs ys) Free O1 H1 := by
  cases r1 with
  | @tup _ vs _ h1 h2 =>
    cases r2 with
    | @tup _ ws _ h3 h4 =>
      refine ⟨fun i d O H hi w os s => ?_, fun i d Γ O σ H v H' hi w hd s z => ?_, fun i O H hi w os s => ?_⟩
      · obtain ⟨d1, d2, g1, g2, rfl⟩ := zipD_get hi
        obtain ⟨v1, e1, _⟩ := h2.get g1
        obtain ⟨v2, e2, _⟩ := h4.get g2
        exact ⟨vs, ws, v1, v2, ((h1.mono (ss s)).mono stb_same).sq, ((h3.mono (ss s)).mono stb_same).sq, e1, e2⟩
      · obtain ⟨d1, d2, g1, g2, rfl⟩ := zipD_get hi
        obtain ⟨v1, e1, f1⟩ := h2.get g1
        obtain ⟨v2, e2, f2⟩ := h4.get g2
        obtain ⟨T, u1, u2, rfl, hT, rfl, y1, y2⟩ := z
        have q1 := y1 vs ((h1.mono (ss s)).mono stb_same).sq
        have q2 := y2 ws ((h3.mono (ss s)).mono stb_same).sq
        rw [e1] at q1; rw [e2] at q2
        cases q1; cases q2
        exact pair_new hd hT (f1.mono (ss s)) (f2.mono (ss s))
      · refine ⟨vs, ws, ((h1.mono (ss s)).mono stb_same).sq, ((h3.mono (ss s)).mono stb_same).sq, ?_⟩
        rw [zipD_len] at hi
        rw [h2.length, h4.length]
        omega
def enumD (xs : List D) : List D := xs.mapIdx fun i x => D.tup [.int (i : Nat), x]
theorem enumD_get {xs : List D} {i : Nat} {d : D} (h : (enumD xs)[i]? = some d) : ∃ x, xs[i]? = some x ∧ d = .tup [.int (i : Nat), x] := by
  unfold enumD at h
  rw [List.getElem?_mapIdx] at h
  cases e : xs[i]? with
  | none => rw [e] at h; cases h
  | some p =>
    rw [e] at h
    exact ⟨_, rfl, (Option.some.inj h).symm⟩
theorem enumD_len (xs : List D) : (enumD xs).length = xs.length := by simp [enumD]
theorem wlk_enumL {x : D} {xs : List D} {a : Addr} {O1 : Ow} {H1 : Hp} (r1 : Rep K (stb F O1 H1) (.ref a) x) : Wlk K F (Ite K a) (enumD xs) (fun O => Vw x O (.lst xs)) O1 H1 := by
  have at1 : ∀ O H, Vw x O (.lst xs) → OwsOk K F O H → Same (hide (ads O1) H1) (hide (ads O) H) → ∃ vs, H a = some (.lst vs) ∧ Reps K (stb F O H) vs xs := fun O H w os s => by
    obtain ⟨a', vs, e, h1, h2⟩ := w.lst os (r1.mono (ss s))
    cases e
    exact ⟨vs, h1, h2⟩
  refine ⟨fun i d O H hi w os s => ?_, fun i d Γ O σ H v H' hi w hd s z => ?_, fun i O H hi w os s => ?_⟩
  · obtain ⟨d1, g1, rfl⟩ := enumD_get hi
    obtain ⟨vs, h1, h2⟩ := at1 O H w os s
    obtain ⟨v1, e1, _⟩ := h2.get g1
    exact ⟨vs, v1, SqL.of h1, e1⟩
  · obtain ⟨d1, g1, rfl⟩ := enumD_get hi
    obtain ⟨vs, h1, h2⟩ := at1 O H w hd.os s
    obtain ⟨v1, e1, f1⟩ := h2.get g1
    obtain ⟨T, u1, rfl, hT, rfl, y1⟩ := z
    have q1 := y1 vs (SqL.of h1)
    rw [e1] at q1
    cases q1
    exact pair_new hd hT (.int _) f1
  · obtain ⟨vs, h1, h2⟩ := at1 O H w os s
    exact ⟨vs, SqL.of h1, by rw [h2.length]; rw [enumD_len] at hi; exact hi⟩
end

section
variable {X : Cx} {F : Fx} {Γ : Ga} {O : Ow} {Q : QI} {tg a b : Expr} {pos p : Pos}
theorem wi_list (h : WE X F a Γ O fun x O1 => ∃ ds, Vw x O1 (.lst ds) ∧ Q ds (fun O => Vw x O (.lst ds)) O1) : WI X F tg a Γ O Q :=
  pi_weak (pi_list h) fun σ H R ⟨hd, k⟩ => ⟨hd, fun x O1 v H1 ⟨ds, w, q⟩ hd1 s1 r1 => by
    obtain ⟨a, xs, rfl, h1, h2⟩ := w.lst hd1.os r1
    exact ⟨a, rfl, ⟨xs, SqL.of h1⟩, k ds _ O1 H1 _ q hd1 s1 fun F' ef => wlk_list (r1.mono ef)⟩⟩
theorem wi_tup (h : WE X F a Γ O fun x O1 => ∃ ds, x = .tup ds ∧ Q ds Free O1) : WI X F tg a Γ O Q :=
  pi_weak (pi_tup h) fun σ H R ⟨hd, k⟩ => ⟨hd, fun x O1 v H1 ⟨ds, w, q⟩ hd1 s1 r1 => by
    subst w
    cases r1 with
    | @tup a xs _ h1 h2 => exact ⟨a, rfl, ⟨xs, (h1.mono stb_same).sq⟩, k ds _ O1 H1 _ q hd1 s1 fun F' ef => wlk_tup (Rep.mono ef (.tup h1 h2))⟩⟩
theorem wi_str (h : WE X F a Γ O fun x O1 => ∃ l, x = .str l ∧ Q (strD l) Free O1) : WI X F tg a Γ O Q :=
  pi_weak (pi_str h) fun σ H R ⟨hd, k⟩ => ⟨hd, fun x O1 v H1 ⟨l, w, q⟩ hd1 s1 r1 => by
    subst w
    cases r1
    exact ⟨sOf l, rfl, k _ _ O1 H1 _ q hd1 s1 fun _ _ => wlk_str⟩⟩
theorem wi_range1 (hm : X.mg "range" = none) (h : WE X F a Γ O fun x O1 => ∃ n : Int, x = .int n ∧ n < 2 ^ 62 ∧ -(2 ^ 62) ≤ n ∧ Q (rangeD 0 n.toNat) Free O1) (hg : Gl X "range" := by rfl) (hs : starEach [a] X.env = [(false, eval a X.env)] := by rfl) : WI X F tg (.Call (.Name "range" p) [a] [] pos) Γ O Q :=
  pi_weak (pi_range1 hg hm (show PA X [a] (tA X.K F Γ O fun ds O1 => ∃ n : Int, ds = [.int n] ∧ n < 2 ^ 62 ∧ -(2 ^ 62) ≤ n ∧ Q (rangeD 0 n.toNat) Free O1) from wa_cons (we_imp h fun d1 O1 ⟨n, e, h1, h2, q⟩ => wa_nil ⟨n, by rw [e], h1, h2, q⟩) hs) hs) fun σ H R ⟨hd, k⟩ => ⟨hd, fun ds O1 vs H1 ⟨n, e, h1, h2, q⟩ hd1 s1 r1 => by
    subst e
    cases r1 with
    | cons r2 r1 =>
      cases r1; cases r2
      exact ⟨n, rfl, h2, h1, k _ _ O1 H1 _ q hd1 s1 fun _ _ => wlk_range⟩⟩
theorem wi_range2 (hm : X.mg "range" = none) (h : WE X F a Γ O fun x O1 => WE X F b Γ O1 fun y O2 => ∃ m n : Int, x = .int m ∧ y = .int n ∧ (m < 2 ^ 62 ∧ -(2 ^ 62) ≤ m ∧ n < 2 ^ 62 ∧ -(2 ^ 62) ≤ n) ∧ Q (rangeD m (n - m).toNat) Free O2) (hg : Gl X "range" := by rfl)
    (hs : starEach [a, b] X.env = [(false, eval a X.env), (false, eval b X.env)] := by rfl) (hs2 : starEach [b] X.env = [(false, eval b X.env)] := by rfl) : WI X F tg (.Call (.Name "range" p) [a, b] [] pos) Γ O Q :=
  pi_weak (pi_range2 hg hm (show PA X [a, b] (tA X.K F Γ O fun ds O1 => ∃ m n : Int, ds = [.int m, .int n] ∧ (m < 2 ^ 62 ∧ -(2 ^ 62) ≤ m ∧ n < 2 ^ 62 ∧ -(2 ^ 62) ≤ n) ∧ Q (rangeD m (n - m).toNat) Free O1) from
    wa_cons (we_imp h fun d1 O1 h => wa_cons (we_imp h fun d2 O2 ⟨m, n, e1, e2, h1, q⟩ => wa_nil ⟨m, n, by rw [e1, e2], h1, q⟩) hs2) (by rw [hs, hs2])) hs hs2) fun σ H R ⟨hd, k⟩ => ⟨hd, fun ds O1 vs H1 ⟨m, n, e, ⟨h1, h2, h3, h4⟩, q⟩ hd1 s1 r1 => by
    subst e
    cases r1 with
    | cons r2 r1 =>
      cases r1 with
      | cons r3 r1 =>
        cases r1; cases r2; cases r3
        exact ⟨m, n, rfl, ⟨h2, h1, h4, h3⟩, k _ _ O1 H1 _ q hd1 s1 fun _ _ => wlk_range⟩⟩
variable {elts : List Expr} {kk : Nat} {tpos : Pos}
theorem wi_zipL (hm : X.mg "zip" = none) (h : WE X F a Γ O fun x O1 => WE X F b Γ O1 fun y O2 => ∃ xs ys, Vw x O2 (.lst xs) ∧ Vw y O2 (.lst ys) ∧ Q (zipD xs ys) (fun O => Vw x O (.lst xs) ∧ Vw y O (.lst ys)) O2) (hg : Gl X "zip" := by rfl)
    (hs : starEach [a, b] X.env = (false, eval a X.env) :: starEach [b] X.env := by rfl) (hs2 : starEach (b :: []) X.env = (false, eval b X.env) :: starEach [] X.env := by rfl) (hpl : (backTo pos (starEach [b] X.env)).any (·.1) = false := by rfl) :
    WI X F (.Tuple elts kk tpos) (.Call (.Name "zip" p) [a, b] [] pos) Γ O Q :=
  pi_weak (pi_zipA hg hm (show PA X [a, b] (tA X.K F Γ O fun ds O2 => ∃ x y xs ys, ds = [x, y] ∧ Vw x O2 (.lst xs) ∧ Vw y O2 (.lst ys) ∧ Q (zipD xs ys) (fun O => Vw x O (.lst xs) ∧ Vw y O (.lst ys)) O2) from
    wa_cons (we_imp h fun d1 O1 h => wa_cons (we_imp h fun d2 O2 ⟨xs, ys, w1, w2, q⟩ => wa_nil ⟨d1, d2, xs, ys, rfl, w1, w2, q⟩) hs2) hs) hs hpl) fun σ H R ⟨hd, k⟩ => ⟨hd, fun ds O1 vs H1 ⟨x, y, xs, ys, e, w1, w2, q⟩ hd1 s1 r1 => by
    subst e
    cases r1 with
    | cons r2 r1 =>
      cases r1 with
      | cons r3 r1 =>
        cases r1
        obtain ⟨a', vs', rfl, h1, h2⟩ := w1.lst hd1.os r2
        obtain ⟨b', ws', rfl, h3, h4⟩ := w2.lst hd1.os r3
        exact ⟨a', b', vs', ws', rfl, .inl ⟨SqL.of h1, SqL.of h3, k _ _ O1 H1 _ q hd1 s1 fun F' ef => wlk_zipL (r2.mono ef) (r3.mono ef)⟩⟩⟩
theorem wi_zipT (hm : X.mg "zip" = none) (h : WE X F a Γ O fun x O1 => WE X F b Γ O1 fun y O2 => ∃ xs ys, x = .tup xs ∧ y = .tup ys ∧ Q (zipD xs ys) Free O2) (hg : Gl X "zip" := by rfl)
    (hs : starEach [a, b] X.env = (false, eval a X.env) :: starEach [b] X.env := by rfl) (hs2 : starEach (b :: []) X.env = (false, eval b X.env) :: starEach [] X.env := by rfl) (hpl : (backTo pos (starEach [b] X.env)).any (·.1) = false := by rfl) :
    WI X F (.Tuple elts kk tpos) (.Call (.Name "zip" p) [a, b] [] pos) Γ O Q :=
  pi_weak (pi_zipA hg hm (show PA X [a, b] (tA X.K F Γ O fun ds O2 => ∃ xs ys, ds = [.tup xs, .tup ys] ∧ Q (zipD xs ys) Free O2) from
    wa_cons (we_imp h fun d1 O1 h => wa_cons (we_imp h fun d2 O2 ⟨xs, ys, w1, w2, q⟩ => wa_nil ⟨xs, ys, by rw [w1, w2], q⟩) hs2) hs) hs hpl) fun σ H R ⟨hd, k⟩ => ⟨hd, fun ds O1 vs H1 ⟨xs, ys, e, q⟩ hd1 s1 r1 => by
    subst e
    cases r1 with
    | cons r2 r1 =>
      cases r1 with
      | cons r3 r1 =>
        cases r1
        cases r2 with
        | @tup a' vs' _ h1 h2 =>
          cases r3 with
          | @tup b' ws' _ h3 h4 =>
            exact ⟨a', b', vs', ws', rfl, .inr ⟨(h1.mono stb_same).sq, (h3.mono stb_same).sq, k _ _ O1 H1 _ q hd1 s1 fun F' ef => wlk_zipT (Rep.mono ef (.tup h1 h2)) (Rep.mono ef (.tup h3 h4))⟩⟩⟩
theorem wi_enumL (hm : X.mg "enumerate" = none) (h : WE X F a Γ O fun x O1 => ∃ xs, Vw x O1 (.lst xs) ∧ Q (enumD xs) (fun O => Vw x O (.lst xs)) O1) (hg : Gl X "enumerate" := by rfl) (hs : starEach [a] X.env = [(false, eval a X.env)] := by rfl) :
    WI X F (.Tuple elts kk tpos) (.Call (.Name "enumerate" p) [a] [] pos) Γ O Q :=
  pi_weak (pi_enum hg hm (show PA X [a] (tA X.K F Γ O fun ds O2 => ∃ x xs, ds = [x] ∧ Vw x O2 (.lst xs) ∧ Q (enumD xs) (fun O => Vw x O (.lst xs)) O2) from
    wa_cons (we_imp h fun d1 O1 ⟨xs, w1, q⟩ => wa_nil ⟨d1, xs, rfl, w1, q⟩) hs) hs) fun σ H R ⟨hd, k⟩ => ⟨hd, fun ds O1 vs H1 ⟨x, xs, e, w1, q⟩ hd1 s1 r1 => by
    subst e
    cases r1 with
    | cons r2 r1 =>
      cases r1
      obtain ⟨a', vs', rfl, h1, h2⟩ := w1.lst hd1.os r2
      exact ⟨a', vs', rfl, SqL.of h1, k _ _ O1 H1 _ q hd1 s1 fun F' ef => wlk_enumL (r2.mono ef)⟩⟩
end

/-! ### loops -/
section
variable {X : Cx} {F : Fx} {Γ : Ga} {O : Ow} {Q : Out} {tg iter c : Expr} {body : List Stmt} {pos : Pos}
def ForI (X : Cx) (F : Fx) (tg : Expr) (body : List Stmt) (Q : Out) (vs : List Nat) (I : Nat → Ga → Ow → Prop) (ds : List D) (Ke : Ow → Prop) : Prop :=
  (∀ i Γ' O', I i Γ' O' → Ke O') ∧
  (∀ i d Γ' O', ds[i]? = some d → I i Γ' O' → WG X F vs tg d Γ' O' fun Γ2 O2 => WB X F body Γ2 O2 { nx := I (i + 1), rt := Q.rt, bk := Q.nx, ct := I (i + 1) }) ∧ ∀ Γ' O', I ds.length Γ' O' → Q.nx Γ' O'
theorem ws_for (vs : List Nat) (hi : WI X F tg iter Γ O fun ds Ke O1 => ∃ I : Nat → Ga → Ow → Prop, I 0 Γ O1 ∧ ForI X F tg body Q vs I ds Ke) (hp : PassesOwn (model X.prog X.w) X.A X.env X.xe := by exact PassesOwn.never) (hc : X.calm = true := by rfl)
    (hs : ∀ x, foldedSetIterable iter X.env x = pure x := by intro _; rfl) : WS X F (.For tg iter body [] pos) Γ O Q :=
  ps_weak (ps_for hp hc hi (pg_any (tg := tg)) (pss_any (sts := body)) hs) fun E σ H ⟨hd, w⟩ => ⟨hd, fun ds Ke O1 H1 J ⟨I, i0, ik, it, ie⟩ hd1 s1 wk0 => by
    have wk := wk0 F same_refl
    refine ⟨fun i m σ H => m = ds.length - i ∧ i ≤ ds.length ∧ ∃ Γ' O', I i Γ' O' ∧ Hd X.K F Γ' O' σ H ∧ Same (hide (ads O1) H1) (hide (ads O') H), ⟨_, rfl, Nat.zero_le _, Γ, O1, i0, hd1, same_refl⟩, ?_⟩
    rintro i m σ2 H2 ⟨rfl, hle, Γ2, O2, i2, hd2, s2⟩
    by_cases hlt : i < ds.length
    · have hds : ds[i]? = some ds[i] := by simp [hlt]
      refine .inr ⟨wk.go i _ O2 H2 hds (ik _ _ _ i2) hd2.os s2, fun σ' H' => ∃ Γ' O', I (i + 1) Γ' O' ∧ Hd X.K F Γ' O' σ' H' ∧ Same (hide (ads O1) H1) (hide (ads O') H'), fun σ' H' ⟨Γ', O', h1, h2, h3⟩ => ⟨ds.length - (i + 1), by omega, rfl, hlt, Γ', O', h1, h2, h3⟩, fun x H' y => ?_⟩
      obtain ⟨hd3, s3, r3⟩ := wk.yld i _ Γ2 O2 σ2 H2 x H' hds (ik _ _ _ i2) hd2 s2 y
      refine ⟨_, it i _ Γ2 O2 hds i2, hd3, r3, fun Γ4 O4 σ4 H4 q4 hd4 s4 _ => ⟨_, q4, hd4, ?_⟩⟩
      have s5 := s2.trans (s3.trans s4)
      exact ⟨fun Γ' O' σ' H' q h s => ⟨Γ', O', q, h, s5.trans s⟩, fun d O' v H' q h s r => w.rt _ _ _ _ q h (s1.trans (s5.trans s)) r, fun Γ' O' σ' H' q h s => w.nx _ _ _ _ q h (s1.trans (s5.trans s)), fun Γ' O' σ' H' q h s => ⟨Γ', O', q, h, s5.trans s⟩⟩
    · have e : i = ds.length := by omega
      subst e
      exact .inl ⟨wk.stop _ O2 H2 (Nat.le_refl _) (ik _ _ _ i2) hd2.os s2, w.nx _ _ _ _ (ie _ _ i2) hd2 (s1.trans s2)⟩⟩
/-- while, by a word that falls -/
theorem ws_while (I : Nat → Ga → Ow → Prop) (m0 : Nat) (h0 : I m0 Γ O) (hs : ∀ m Γ' O', I m Γ' O' → WT X F c Γ' O' fun k O1 => (k = true → WB X F body Γ' O1 { nx := fun Γ2 O2 => ∃ m', m' < m ∧ I m' Γ2 O2, rt := Q.rt, bk := Q.nx, ct := fun Γ2 O2 => ∃ m', m' < m ∧ I m' Γ2 O2 }) ∧ (k = false → Q.nx Γ' O1))
    (hp : PassesOwn (model X.prog X.w) X.A X.env X.xe := by exact PassesOwn.never) : WS X F (.While c body [] pos) Γ O Q :=
  ps_weak (ps_while hp (pt_any (e := c)) (pss_any (sts := body))) fun E σ H ⟨hd, w⟩ => by
    refine ⟨fun m σ' H' => ∃ Γ' O', I m Γ' O' ∧ Hd X.K F Γ' O' σ' H' ∧ Same (hide (ads O) H) (hide (ads O') H'), ⟨m0, Γ, O, h0, hd, same_refl⟩, ?_⟩
    rintro m σ2 H2 ⟨Γ2, O2, i2, hd2, s2⟩
    refine wt_run (hs m Γ2 O2 i2) hd2 fun k O3 H3 q3 hd3 s3 => ?_
    have s5 := s2.trans s3
    cases k with
    | true =>
      rw [if_pos rfl]
      refine ⟨fun σ' H' => ∃ m', m' < m ∧ ∃ Γ' O', I m' Γ' O' ∧ Hd X.K F Γ' O' σ' H' ∧ Same (hide (ads O) H) (hide (ads O') H'), fun σ' H' z => z, _, q3.1 rfl, hd3, ?_⟩
      exact ⟨fun Γ' O' σ' H' ⟨m', hm, q⟩ h s => ⟨m', hm, Γ', O', q, h, s5.trans s⟩, fun d O' v H' q h s r => w.rt _ _ _ _ q h (s5.trans s) r, fun Γ' O' σ' H' q h s => w.nx _ _ _ _ q h (s5.trans s), fun Γ' O' σ' H' ⟨m', hm, q⟩ h s => ⟨m', hm, Γ', O', q, h, s5.trans s⟩⟩
    | false =>
      rw [if_neg Bool.false_ne_true]
      exact w.nx _ _ _ _ (q3.2 rfl) hd3 s5
end
end Dl

namespace Dl
open PySem PySem.Spec PyProof.Rows L2

/-! ### comprehensions -/
section
variable {X : Cx} {scope : Scope} {F : Fx} {Γ : Ga} {O : Ow} {a c elt tg iter : Expr} {ifs : List Expr} {pos : Pos}
def BlkG (X : Cx) (scope : Scope) (F : Fx) (vs : List Nat) (tg : Expr) (d : D) (Γ : Ga) (O : Ow) (Q : Ga → Ow → Prop) : Prop :=
  ∀ (s : Shared) (H0 : Hp) (C : Addr) (cl : List (Str × Addr)) (fp : List Addr), WG (X.blk s H0 scope (compEnvC scope cl C X.env) fp) F vs tg d Γ O Q
def BlkE (X : Cx) (scope : Scope) (F : Fx) (e : Expr) (Γ : Ga) (O : Ow) (Q : QD) : Prop :=
  ∀ (s : Shared) (H0 : Hp) (C : Addr) (cl : List (Str × Addr)) (fp : List Addr), WE (X.blk s H0 scope (compEnvC scope cl C X.env) fp) F e Γ O Q
def BlkT (X : Cx) (scope : Scope) (F : Fx) (ifs : List Expr) (Γ : Ga) (O : Ow) (Q : Bool → Ow → Prop) : Prop :=
  ∀ (s : Shared) (H0 : Hp) (C : Addr) (cl : List (Str × Addr)) (fp : List Addr), PTs (X.blk s H0 scope (compEnvC scope cl C X.env) fp) ifs (tT X.K F Γ O Q)
theorem pts_weak {t u : TT} (h : PTs X ifs t) (k : ∀ σ H R, u σ H R → t σ H R) : PTs X ifs u := ⟨fun pins s σ H Q I q => h.run pins s σ H Q I (k _ _ _ q)⟩
theorem bt_nil {Q : Bool → Ow → Prop} (q : Q true O) : BlkT X scope F [] Γ O Q := fun s H0 C cl fp => pts_weak pts_nil fun σ H R ⟨hd, k⟩ => k true O H q hd same_refl
theorem bt_one {Q : Bool → Ow → Prop} (h : ∀ (s : Shared) (H0 : Hp) (C : Addr) (cl : List (Str × Addr)) (fp : List Addr), WT (X.blk s H0 scope (compEnvC scope cl C X.env) fp) F c Γ O Q) : BlkT X scope F [c] Γ O Q := fun s H0 C cl fp => pts_one (h s H0 C cl fp)
def tAnyBG (X : Cx) (scope : Scope) (tg : Expr) : TG := fun v σ H R => ∃ t, (∀ (s : Shared) (H0 : Hp) (C : Addr) (cl : List (Str × Addr)) (fp : List Addr), PG (X.blk s H0 scope (compEnvC scope cl C X.env) fp) tg t) ∧ t v σ H R
def tAnyBE (X : Cx) (scope : Scope) (e : Expr) : TE := fun σ H R => ∃ t, (∀ (s : Shared) (H0 : Hp) (C : Addr) (cl : List (Str × Addr)) (fp : List Addr), PE (X.blk s H0 scope (compEnvC scope cl C X.env) fp) e t) ∧ t σ H R
def tAnyBT (X : Cx) (scope : Scope) (ifs : List Expr) : TT := fun σ H R => ∃ t, (∀ (s : Shared) (H0 : Hp) (C : Addr) (cl : List (Str × Addr)) (fp : List Addr), PTs (X.blk s H0 scope (compEnvC scope cl C X.env) fp) ifs t) ∧ t σ H R
theorem bg_any (s : Shared) (H0 : Hp) (C : Addr) (cl : List (Str × Addr)) (fp : List Addr) : PG (X.blk s H0 scope (compEnvC scope cl C X.env) fp) tg (tAnyBG X scope tg) := ⟨fun pins s' σ H v w Q I r ⟨t, p, q⟩ => (p s H0 C cl fp).run pins s' σ H v w Q I r q⟩
theorem be_any (s : Shared) (H0 : Hp) (C : Addr) (cl : List (Str × Addr)) (fp : List Addr) : PE (X.blk s H0 scope (compEnvC scope cl C X.env) fp) elt (tAnyBE X scope elt) := ⟨fun pins s' σ H Q I ⟨t, p, q⟩ => (p s H0 C cl fp).run pins s' σ H Q I q⟩
theorem bts_any (s : Shared) (H0 : Hp) (C : Addr) (cl : List (Str × Addr)) (fp : List Addr) : PTs (X.blk s H0 scope (compEnvC scope cl C X.env) fp) ifs (tAnyBT X scope ifs) := ⟨fun pins s' σ H Q I ⟨t, p, q⟩ => (p s H0 C cl fp).run pins s' σ H Q I q⟩
def wipeG (Γ : Ga) : List Nat → Ga
  | [] => Γ
  | v :: vs => (wipeG Γ vs).set v none
theorem wipeG_len (Γ : Ga) : ∀ vs, (wipeG Γ vs).length = Γ.length
  | [] => rfl
  | v :: vs => by unfold wipeG; rw [List.length_set, wipeG_len Γ vs]
theorem wipe_in {σ : L2.St} {i : Nat} (hl : i < σ.length) : ∀ {vs : List Nat}, i ∈ vs → (wipe σ vs)[i]? = some none
  | v :: vs, h => by
    unfold wipe
    by_cases e : v = i
    · subst e
      exact List.getElem?_set_self (by rw [wipe_length]; exact hl)
    · rw [List.getElem?_set_ne e]
      exact wipe_in hl ((List.mem_cons.mp h).elim (fun z => absurd z.symm e) id)
theorem wipe_eq {σ σ' : L2.St} {vs : List Nat} (hl : σ'.length = σ.length) (h : ∀ i, i ∉ vs → σ'[i]? = (wipe σ vs)[i]?) : wipe σ' vs = wipe σ vs := by
  apply List.ext_getElem?
  intro i
  by_cases hv : i ∈ vs
  · by_cases hi : i < σ.length
    · rw [wipe_in (by rw [hl]; exact hi) hv, wipe_in hi hv]
    · rw [List.getElem?_eq_none (by rw [wipe_length]; omega), List.getElem?_eq_none (by rw [wipe_length]; omega)]
  · rw [wipe_out hv, h i hv]
theorem wipeG_sl {K : PySem.W.Frag} {S : Hp} {σ : L2.St} : ∀ {vs : List Nat}, (∀ (i : Nat) (d : D), Γ[i]? = some (some d) → ∃ v, σ[i]? = some (some v) ∧ Rep K S v d) → ∀ (i : Nat) (d : D), (wipeG Γ vs)[i]? = some (some d) → ∃ v, (wipe σ vs)[i]? = some (some v) ∧ Rep K S v d
  | [], h, i, d, e => h i d e
  | v :: vs, h, i, d, e => by
    unfold wipeG at e
    rcases getElem?_set_some e with ⟨e1, e2, e3⟩ | ⟨e1, e2⟩
    · cases e3
    · obtain ⟨w, w1, w2⟩ := wipeG_sl (vs := vs) h i d e2
      refine ⟨w, ?_, w2⟩
      show ((wipe σ vs).set v none)[i]? = _
      rw [List.getElem?_set_ne e1]
      exact w1
/-- what a comprehension asks: a word of the turn, the list so far, the cells -/
def LcI (X : Cx) (scope : Scope) (tg : Expr) (ifs : List Expr) (elt : Expr) (vs : List Nat) (Γ : Ga) (I : Nat → List D → Ow → Prop) (ds : List D) (Ke : Ow → Prop) (Q : QD) : Prop :=
  (∀ i acc O', I i acc O' → Ke O' ∧ acc.length ≤ i) ∧ ds.length ≤ 10000000 ∧
  (∀ i d acc O', ds[i]? = some d → I i acc O' → ∀ F', BlkG X scope F' vs tg d (wipeG Γ vs) O' fun Γ2 O2 => BlkT X scope F' ifs Γ2 O2 fun b O3 =>
    (b = true → BlkE X scope F' elt Γ2 O3 fun y O4 => I (i + 1) (acc ++ [y]) O4) ∧ (b = false → I (i + 1) acc O3)) ∧
  ∀ acc O', I ds.length acc O' → NewL acc O' Q
theorem hide_congr {L L' : List Addr} {H : Hp} (h : ∀ a, a ∈ L ↔ a ∈ L') : hide L H = hide L' H := by
  funext a
  unfold hide
  by_cases q : a ∈ L
  · rw [if_pos q, if_pos ((h a).mp q)]
  · rw [if_neg q, if_neg fun z => q ((h a).mpr z)]
theorem lc_run {vs : List Nat} {σ : L2.St} {R : VK} {Q : QD} {ds : List D} {Ke : Ow → Prop} {J : It} {O1 : Ow} {H1 : Hp} {I : Nat → List D → Ow → Prop} (hd1 : Hd X.K F Γ O1 σ H1)
    (i0 : I 0 [] O1) (L : LcI X scope tg ifs elt vs Γ I ds Ke Q) (wk : ∀ F' : Fx, Same (stb F O1 H1) (stb F' O1 H1) → Wlk X.K F' J ds Ke O1 H1)
    (k : ∀ d O' w H', Q d O' → Hd X.K F Γ O' σ H' → Same (hide (ads O1) H1) (hide (ads O') H') → Rep X.K (stb F O' H') w d → R w H') :
    ∀ D, H1 D = none → ∃ W : Nat → Nat → Hp → Prop, (∃ m, W 0 m (upd H1 D (.lst []))) ∧ ∀ i m H, W i m H →
      (J.stop i H ∧ R (.ref D) H) ∨ (J.go i H ∧ ∃ Nx : Hp → Prop, (∀ H', Nx H' → ∃ m', m' < m ∧ W (i + 1) m' H') ∧ ∀ x H', J.yld i H x H' → tAnyBG X scope tg x (wipe σ vs) H' fun σ2 H2 => wipe σ2 vs = wipe σ vs ∧ tAnyBT X scope ifs σ2 H2 fun b H3 =>
        if b = true then tAnyBE X scope elt σ2 H3 fun y H4 => ∃ acc, H4 D = some (.lst acc) ∧ acc.length < sizeLine ∧ Nx (upd H4 D (.lst (acc ++ [y]))) else Nx H3) := fun D hD => by
  obtain ⟨L1, L0, L2', L3⟩ := L
  have hsz : (10000000 : Nat) < sizeLine := by decide
  -- the heap without D as well
  have stD : ∀ (B : Hp) (A : List Addr) (O' : Ow) (H' : Hp), Same (hide (ads O1) H1) (hide (ads O') H') → Same (stb F O1 H1) (stb ⟨B, A, D :: F.Z⟩ O' H') := fun B A O' H' s a o h => by
    obtain ⟨h1, h2, h3⟩ := stb_some h
    obtain ⟨h4, h5⟩ := hide_some (s a o (hide_of h2 h3))
    refine stb_of (fun z => ?_) h4 h5
    rcases List.mem_cons.mp z with rfl | z
    · rw [hD] at h3; cases h3
    · exact h1 z
  let FD : Hp → Ow → Fx := fun H' O' => ⟨H', ads O', D :: F.Z⟩
  let Wd : Nat → Hp → Prop := fun i H' => ∃ acc accV O', I i acc O' ∧ H' D = some (.lst accV) ∧ D ∉ ads O' ∧ Reps X.K (stb (FD H' O') O' H') accV acc ∧ OwsOk X.K (FD H' O') O' H' ∧ Same (hide (ads O1) H1) (hide (ads O') H')
  have zF : ∀ z, z ∈ F.Z → z ∉ ads O1 ∧ ∃ o, H1 z = some o := fun z hz => by
    obtain ⟨q1, o, q2⟩ := hd1.zf z hz
    obtain ⟨q3, q4⟩ := hide_some (hd1.fr z o (hide_of q1 q2))
    exact ⟨q3, o, q4⟩
  refine ⟨fun i m H' => m = ds.length - i ∧ i ≤ ds.length ∧ Wd i H', ⟨_, rfl, Nat.zero_le _, [], [], O1, i0, upd_same, hd1.os.ne hD, .nil, ⟨hd1.os.nd, fun a c m => (hd1.os.ow a c m).mono (stD _ _ _ _ (same_hide_new hD)) (upd_ne fun z => ?_)⟩, same_hide_new hD⟩, ?_⟩
  · exact hd1.os.ne hD (z ▸ mem_ads m)
  rintro i m H2 ⟨rfl, hle, acc, accV, O2, i2, hD2, nD2, ra, os2, s2⟩
  -- the assertion over F, over FD
  have osF : OwsOk X.K F O2 H2 := ⟨os2.nd, fun a c m => (os2.ow a c m).mono (fun b o h => by
    obtain ⟨h1, h2, h3⟩ := stb_some h
    exact stb_of (fun z => h1 (List.mem_cons_of_mem _ z)) h2 h3) rfl⟩
  have okD : (FD H2 O2).Ok := fun z hz => by
    rcases List.mem_cons.mp hz with rfl | hz
    · exact ⟨nD2, _, hD2⟩
    · obtain ⟨q3, o, q4⟩ := zF z hz
      obtain ⟨q5, q6⟩ := hide_some (s2 z o (hide_of q3 q4))
      exact ⟨q5, o, q6⟩
  have hdD : Hd X.K (FD H2 O2) (wipeG Γ vs) O2 (wipe σ vs) H2 := ⟨by rw [wipeG_len, wipe_length]; exact hd1.len, wipeG_sl (SlOk.mono (stD _ _ _ _ s2) hd1.sl), os2, same_refl, okD⟩
  have wkD := wk (FD H2 O2) (fun a o h => stD _ _ _ _ same_refl a o h)
  by_cases hlt : i < ds.length
  · have hds : ds[i]? = some ds[i] := by simp [hlt]
    have hi2 := L1 _ _ _ i2
    refine .inr ⟨wkD.go i _ O2 H2 hds hi2.1 os2 s2, fun H' => Wd (i + 1) H', fun H' z => ⟨ds.length - (i + 1), by omega, rfl, hlt, z⟩, fun x H3 y => ?_⟩
    obtain ⟨hd3, s3, r3⟩ := wkD.yld i _ _ O2 _ H2 x H3 hds hi2.1 hdD s2 y
    refine ⟨tGd X.K (FD H2 O2) vs ds[i] (wipeG Γ vs) O2 _, L2' i _ acc O2 hds i2 (FD H2 O2), hd3, r3, fun Γ4 O4 σ4 H4 q4 hd4 s4 e4 => ⟨wipe_eq (by rw [e4.2, wipe_length]) e4.1, tT X.K (FD H2 O2) Γ4 O4 _, q4, hd4, fun b O5 H5 q5 hd5 s5 => ?_⟩⟩
    -- D is as it was
    have keep : ∀ O' H', Same (hide (ads O2) H2) (hide (ads O') H') → H' D = some (.lst accV) ∧ D ∉ ads O' := fun O' H' s => by
      obtain ⟨h1, h2⟩ := hide_some (s D _ (hide_of nD2 hD2))
      exact ⟨h2, h1⟩
    have s35 := s3.trans (s4.trans s5)
    cases b with
    | false =>
      show Wd (i + 1) H5
      obtain ⟨k1, k2⟩ := keep O5 H5 s35
      exact ⟨acc, accV, O5, q5.2 rfl, k1, k2, ra.mono (ss s35), ⟨hd5.os.nd, hd5.os.ow⟩, s2.trans s35⟩
    | true =>
      show tAnyBE X scope elt σ4 H5 _
      refine ⟨tE X.K (FD H2 O2) Γ4 O5 _, q5.1 rfl, hd5, fun y' O6 u H6 q6 hd6 s6 r6 => ?_⟩
      have s36 := s35.trans s6
      obtain ⟨k1, k2⟩ := keep O6 H6 s36
      have eh : ∀ (B : Hp) (A : List Addr), stb ⟨B, A, D :: F.Z⟩ O6 (upd H6 D (.lst (accV ++ [u]))) = stb ⟨B, A, D :: F.Z⟩ O6 H6 := fun B A => hide_upd (List.mem_append_left _ List.mem_cons_self)
      refine ⟨accV, k1, ?_, acc ++ [y'], accV ++ [u], O6, q6, upd_same, k2, ?_, ⟨hd6.os.nd, fun a c m => ?_⟩, fun a o h => ?_⟩
      · rw [ra.length]
        have := hi2.2
        omega
      · rw [eh]
        exact (ra.mono (ss s36)).append (.cons r6 .nil)
      · rw [eh]
        exact (hd6.os.ow a c m).mono same_refl (upd_ne fun z => k2 (z ▸ mem_ads m))
      · obtain ⟨g1, g2⟩ := hide_some (s36 a o (s2 a o h))
        refine hide_of g1 ?_
        rw [upd_ne]
        · exact g2
        · intro z
          subst z
          have := (hide_some h).2
          rw [hD] at this
          cases this
  · have e : i = ds.length := by omega
    subst e
    refine .inl ⟨wkD.stop _ O2 H2 (Nat.le_refl _) (L1 _ _ _ i2).1 os2 s2, ?_⟩
    have hF : Hd X.K F Γ O2 σ H2 := ⟨hd1.len, SlOk.mono (ss s2) hd1.sl, osF, hd1.fr.trans s2, hd1.zf⟩
    have nZ : D ∉ F.Z := fun z => by
      obtain ⟨_, o, q⟩ := zF D z
      rw [hD] at q; cases q
    rcases L3 acc O2 i2 with h | h
    · refine k _ O2 _ H2 h hF s2 (.lst (stb_of nZ nD2 hD2) (ra.mono fun b o h => ?_))
      obtain ⟨h1, h2, h3⟩ := stb_some h
      exact stb_of (fun z => h1 (List.mem_cons_of_mem _ z)) h2 h3
    · have ec : stb F ((D, OC.lst acc) :: O2) H2 = stb (FD H2 O2) O2 H2 := hide_congr fun a => by
        show a ∈ F.Z ++ D :: ads O2 ↔ a ∈ (D :: F.Z) ++ ads O2
        simp only [List.mem_append, List.mem_cons]
        constructor
        · rintro (h | h | h)
          · exact .inl (.inr h)
          · exact .inl (.inl h)
          · exact .inr h
        · rintro ((h | h) | h)
          · exact .inr (.inl h)
          · exact .inl h
          · exact .inr (.inr h)
      have sD : Same (hide (ads O1) H1) (hide (D :: ads O2) H2) := fun a o h => by
        obtain ⟨g1, g2⟩ := hide_some (s2 a o h)
        refine hide_of (fun z => ?_) g2
        rcases List.mem_cons.mp z with rfl | z
        · have := (hide_some h).2
          rw [hD] at this; cases this
        · exact g1 z
      refine k _ ((D, .lst acc) :: O2) (.ref D) H2 (h D nD2) ⟨hd1.len, ?_, ⟨List.nodup_cons.mpr ⟨nD2, os2.nd⟩, fun a c m => ?_⟩, hd1.fr.trans sD, hd1.zf⟩ sD (.at D)
      · rw [ec]
        exact SlOk.mono (stD _ _ _ _ s2) hd1.sl
      · rw [ec]
        rcases List.mem_cons.mp m with e | m2
        · cases e
          exact ⟨accV, hD2, ra⟩
        · exact os2.ow a c m2
theorem we_lc {own : List (Str × Nat)} {Q : QD} (hi : WI X F tg iter Γ O fun ds Ke O1 => ∃ I : Nat → List D → Ow → Prop, I 0 [] O1 ∧ LcI X scope tg ifs elt (own.map (·.2)) Γ I ds Ke Q) (hN : X.N.Nodup) (ok : BlkOk X.N X.env.scope scope own)
    (hc : X.calm = true := by rfl) (hs : ∀ x, foldedSetIterable iter X.env x = pure x := by intro _; rfl) : WE X F (.ListComp elt [⟨tg, iter, ifs, 0⟩] scope pos) Γ O Q :=
  we_of (pe_lc hc hN hi ok bg_any bts_any be_any hs) fun σ H R hd k => ⟨hd, fun ds Ke O1 H1 J ⟨I, i0, L⟩ hd1 s1 wk => lc_run hd1 i0 L wk fun d O' w H' q hd' s' r' => k d O' w H' q hd' (s1.trans s') r'⟩
theorem ws_setLc (i : Nat) {own : List (Str × Nat)} {Q : Out} {y : Str} {py spos : Pos} (hi : WI X F tg iter Γ O fun ds Ke O1 => ∃ I : Nat → List D → Ow → Prop, I 0 [] O1 ∧ LcI X scope tg ifs elt (own.map (·.2)) Γ I ds Ke fun d O' => Q.nx (Γ.set i (some d)) O') (hN : X.N.Nodup) (ok : BlkOk X.N X.env.scope scope own)
    (hy : X.N[i]? = some y := by rfl) (hyl : X.env.scope.names.lookup y = some .local := by rfl)
    (hsw : swapsWith (.ListComp elt [⟨tg, iter, ifs, 0⟩] scope pos) (some (.Name y py)) spos.line X.env = pure true := by exact sw_true rfl rfl rfl (by decide +kernel)) (hc : X.calm = true := by rfl) (hs : ∀ x, foldedSetIterable iter X.env x = pure x := by intro _; rfl) :
    WS X F (.Assign [.Name y py] (.ListComp elt [⟨tg, iter, ifs, 0⟩] scope pos) spos) Γ O Q :=
  ps_weak (ps_setLc hc hN hy hyl hsw hi ok bg_any bts_any be_any hs) fun E σ H ⟨hd, w⟩ => ⟨hd, fun ds Ke O1 H1 J ⟨I, i0, L⟩ hd1 s1 wk => lc_run hd1 i0 L wk fun d O' v H' q hd' s' r' => w.nx _ _ _ _ q (hd'.slot r') (s1.trans s')⟩
end
end Dl

namespace Dl
open PySem PySem.Spec PyProof.Rows L2

/-! ### methods of built-in types -/
section
variable {X : Cx} {F : Fx} {Γ : Ga} {O : Ow} {Q : QD} {a b o e : Expr} {es : List Expr} {pos apos : Pos}
/-- an owned cell's address in the heap -/
theorem own_at {K : PySem.W.Frag} {H : Hp} {p : Addr} {ds : List D} {k : Nat} (os : OwsOk K F O H) (h : O[k]? = some (p, .lst ds)) : ∃ xs, H p = some (.lst xs) ∧ Reps K (stb F O H) xs ds := os.ow p _ (mem_of_get h)
def MeD (X : Cx) (F : Fx) (T : String) (r : V → List V → Hp → VK → Prop) (x : D) (ys : List D) (Γ : Ga) (O : Ow) (Q : QD) : Prop :=
  ∀ (σ : L2.St) (H : Hp) (v : V) (us : List V) (R : VK), Hd X.K F Γ O σ H → Rep X.K (stb F O H) v x → Reps X.K (stb F O H) us ys →
    (∀ d O' w H', Q d O' → Hd X.K F Γ O' σ H' → Same (hide (ads O) H) (hide (ads O') H') → Rep X.K (stb F O' H') w d → R w H') → r v us H R
/-- the receiver's type -/
def TyR (X : Cx) (F : Fx) (T : String) (x : D) (O : Ow) : Prop := ∀ (H : Hp) (v : V), OwsOk X.K F O H → Rep X.K (stb F O H) v x → tyV X.K T v H
theorem tyr_lst {ds : List D} {x : D} (w : Vw x O (.lst ds)) : TyR X F "list" x O := fun H v os r => by
  obtain ⟨p, xs, rfl, h1, h2⟩ := w.lst os r
  exact .inl ⟨rfl, xs, SqL.of h1⟩
theorem tyr_str {l : List Nat} : TyR X F "str" (.str l) O := fun H v os r => by
  cases r
  exact rfl
theorem we_bm {T : String} {name : Str} {id : String} {r : V → List V → Hp → VK → Prop} (pa : PlainAttrs T) (slot : Slot T name id) (hty : typeOf (.builtin id) = pure (.type "method_descriptor")) (hm : MtR X id r)
    (h : WE X F o Γ O fun x O1 => TyR X F T x O1 ∧ WA X F (e :: es) Γ O1 fun ys O2 => MeD X F T r x ys Γ O2 Q)
    (hp : ∀ {to : TE} {t : TA}, PE X o to → PA X (e :: es) t → PE X (.Call (.Attribute o name apos) (e :: es) [] pos) (tBM X.K T r to t) := by exact fun h1 h2 => pe_bm pa slot hty hm h1 h2) : WE X F (.Call (.Attribute o name apos) (e :: es) [] pos) Γ O Q :=
  we_of (hp h (pa_any (es := e :: es))) fun σ H R hd k => ⟨hd, fun x O1 v H1 ⟨ty, q1⟩ hd1 s1 r1 => ⟨ty H1 v hd1.os r1, wa_run q1 hd1 fun ys O2 us H2 q2 hd2 s2 r2 =>
    q2 σ H2 v us R hd2 (r1.mono (ss s2)) r2 fun d O' w H' q hd' s' r' => k d O' w H' q hd' (s1.trans (s2.trans s')) r'⟩⟩
theorem we_bm0 {T : String} {name : Str} {id : String} {r : V → List V → Hp → VK → Prop} (pa : PlainAttrs T) (slot : Slot T name id) (hty : typeOf (.builtin id) = pure (.type "method_descriptor")) (hm : MtR X id r)
    (h : WE X F o Γ O fun x O1 => TyR X F T x O1 ∧ MeD X F T r x [] Γ O1 Q)
    (hp : ∀ {to : TE}, PE X o to → PE X (.Call (.Attribute o name apos) [] [] pos) (tBM0 X.K T r to) := by exact fun h1 => pe_bm0 pa slot hty hm h1) : WE X F (.Call (.Attribute o name apos) [] [] pos) Γ O Q :=
  we_of (hp h) fun σ H R hd k => ⟨hd, fun x O1 v H1 ⟨ty, q1⟩ hd1 s1 r1 => ⟨ty H1 v hd1.os r1, 
    q1 σ H1 v [] R hd1 r1 .nil fun d O' w H' q hd' s' r' => k d O' w H' q hd' (s1.trans s') r'⟩⟩
/-- xs.append(y), xs an owned list -/
theorem me_append {p : Addr} {k : Nat} {ds : List D} {y : D} (hk : O[k]? = some (p, .lst ds)) (hz : ds.length < sizeLine) (q : Q .non (O.set k (p, .lst (ds ++ [y])))) : MeD X F "list" rAppend (.at p) [y] Γ O Q :=
  fun σ H v us R hd rv ru kk => by
    cases rv
    cases ru with
    | cons r1 rn =>
      cases rn
      obtain ⟨xs, h1, h2⟩ := own_at hd.os hk
      obtain ⟨h3, h4⟩ := hd.set (c' := .lst (ds ++ [y])) hk (o := .lst (xs ++ [_])) ⟨_, upd_same, h2.append (.cons r1 .nil)⟩
      exact ⟨p, xs, _, rfl, rfl, h1, by rw [h2.length]; exact hz, kk _ _ _ _ q h3 h4 .non⟩
/-- xs.extend(ys) -/
theorem me_extend {p : Addr} {k : Nat} {ds es : List D} {y : D} (hk : O[k]? = some (p, .lst ds)) (hy : Vw y O (.lst es)) (hz : ds.length + es.length ≤ sizeLine) (q : Q .non (O.set k (p, .lst (ds ++ es)))) : MeD X F "list" rExtend (.at p) [y] Γ O Q :=
  fun σ H v us R hd rv ru kk => by
    cases rv
    cases ru with
    | cons r1 rn =>
      cases rn
      obtain ⟨xs, h1, h2⟩ := own_at hd.os hk
      obtain ⟨p2, ys, rfl, h5, h6⟩ := hy.lst hd.os r1
      obtain ⟨h3, h4⟩ := hd.set (c' := .lst (ds ++ es)) hk (o := .lst (xs ++ ys)) ⟨_, upd_same, h2.append h6⟩
      exact ⟨p, p2, xs, ys, rfl, rfl, h1, h5, by rw [h2.length, h6.length]; exact hz, kk _ _ _ _ q h3 h4 .non⟩
theorem reps_dropLast {K : PySem.W.Frag} {H : Hp} {vs : List V} {ds : List D} (r : Reps K H vs ds) : Reps K H vs.dropLast ds.dropLast := by
  rw [List.dropLast_eq_take, List.dropLast_eq_take, r.length]
  exact r.take _
/-- xs.pop() -/
theorem me_pop {p : Addr} {k : Nat} {ds : List D} {y : D} (hk : O[k]? = some (p, .lst ds)) (hy : ds.getLast? = some y) (q : Q y (O.set k (p, .lst ds.dropLast))) : MeD X F "list" rPop (.at p) [] Γ O Q :=
  fun σ H v us R hd rv ru kk => by
    cases rv
    cases ru
    obtain ⟨xs, h1, h2⟩ := own_at hd.os hk
    have hy' : ds[ds.length - 1]? = some y := by rw [← hy, List.getLast?_eq_getElem?]
    obtain ⟨u, e1, e2⟩ := h2.get hy'
    obtain ⟨h3, h4⟩ := hd.set (c' := .lst ds.dropLast) hk (o := .lst xs.dropLast) ⟨_, upd_same, reps_dropLast h2⟩
    refine ⟨p, xs, u, rfl, rfl, h1, by rw [h2.length]; exact e1, kk _ _ _ _ q h3 h4 (e2.mono (ss h4))⟩
/-- xs.pop(i) -/
theorem me_popAt {p : Addr} {k : Nat} {ds : List D} {i : Nat} {y : D} (hk : O[k]? = some (p, .lst ds)) (hz : i < 2 ^ 63) (hy : ds[i]? = some y) (q : Q y (O.set k (p, .lst (ds.eraseIdx i)))) : MeD X F "list" rPopAt (.at p) [.int (i : Int)] Γ O Q :=
  fun σ H v us R hd rv ru kk => by
    cases rv
    cases ru with
    | cons r1 rn =>
      cases rn; cases r1
      obtain ⟨xs, h1, h2⟩ := own_at hd.os hk
      obtain ⟨u, e1, e2⟩ := h2.get hy
      have hlt := (List.getElem?_eq_some_iff.mp e1).1
      have er : Reps X.K (stb F O H) (xs.eraseIdx i) (ds.eraseIdx i) := by
        rw [List.eraseIdx_eq_take_drop_succ, List.eraseIdx_eq_take_drop_succ]
        exact (h2.take _).append (h2.drop _)
      obtain ⟨h3, h4⟩ := hd.set (c' := .lst (ds.eraseIdx i)) hk (o := .lst (xs.eraseIdx i)) ⟨_, upd_same, er⟩
      refine ⟨p, xs, (i : Int), i, u, rfl, rfl, h1, by omega, by omega, ?_, e1, kk _ _ _ _ q h3 h4 (e2.mono (ss h4))⟩
      exact (ixN_seq (n := xs.length) (i := (i : Int)) (j := i) (by unfold ixN; rw [if_pos (by omega), if_pos (by omega)]; simp)).1
/-- xs.clear() -/
theorem me_clear {p : Addr} {k : Nat} {ds : List D} (hk : O[k]? = some (p, .lst ds)) (q : Q .non (O.set k (p, .lst []))) : MeD X F "list" rClear (.at p) [] Γ O Q :=
  fun σ H v us R hd rv ru kk => by
    cases rv
    cases ru
    obtain ⟨xs, h1, h2⟩ := own_at hd.os hk
    obtain ⟨h3, h4⟩ := hd.set (c' := .lst []) hk (o := .lst []) ⟨_, upd_same, .nil⟩
    exact ⟨p, xs, rfl, rfl, h1, kk _ _ _ _ q h3 h4 .non⟩

theorem we_append (h : WE X F o Γ O fun x O1 => (∃ ds, Vw x O1 (.lst ds)) ∧ WE X F e Γ O1 fun y O2 => ∃ p k ds, x = .at p ∧ O2[k]? = some (p, .lst ds) ∧ ds.length < sizeLine ∧ Q .non (O2.set k (p, .lst (ds ++ [y]))))
    (he : starEach (e :: []) X.env = (false, eval e X.env) :: starEach [] X.env := by rfl)
    (hp : ∀ {to : TE} {t : TA}, PE X o to → PA X [e] t → PE X (.Call (.Attribute o "append" apos) [e] [] pos) (tBM X.K "list" rAppend to t) := by exact fun h1 h2 => pe_bm PySem.F.plainAttrs_list PySem.F.slot_list_append PySem.F.type_list_append mt_append h1 h2) :
    WE X F (.Call (.Attribute o "append" apos) [e] [] pos) Γ O Q :=
  we_bm PySem.F.plainAttrs_list PySem.F.slot_list_append PySem.F.type_list_append mt_append (we_imp h fun x O1 ⟨⟨ds, w⟩, h2⟩ => ⟨tyr_lst w, wa_cons (we_imp h2 fun y O2 ⟨p, k, ds, e1, hk, hz, q⟩ => wa_nil (by subst e1; exact me_append hk hz q)) he⟩) hp
theorem we_extend (h : WE X F o Γ O fun x O1 => (∃ ds, Vw x O1 (.lst ds)) ∧ WE X F e Γ O1 fun y O2 => ∃ p k ds es, x = .at p ∧ O2[k]? = some (p, .lst ds) ∧ Vw y O2 (.lst es) ∧ ds.length + es.length ≤ sizeLine ∧ Q .non (O2.set k (p, .lst (ds ++ es))))
    (he : starEach (e :: []) X.env = (false, eval e X.env) :: starEach [] X.env := by rfl)
    (hp : ∀ {to : TE} {t : TA}, PE X o to → PA X [e] t → PE X (.Call (.Attribute o "extend" apos) [e] [] pos) (tBM X.K "list" rExtend to t) := by exact fun h1 h2 => pe_bm PySem.F.plainAttrs_list PySem.F.slot_list_extend PySem.F.type_list_extend mt_extend h1 h2) :
    WE X F (.Call (.Attribute o "extend" apos) [e] [] pos) Γ O Q :=
  we_bm PySem.F.plainAttrs_list PySem.F.slot_list_extend PySem.F.type_list_extend mt_extend (we_imp h fun x O1 ⟨⟨ds, w⟩, h2⟩ => ⟨tyr_lst w, wa_cons (we_imp h2 fun y O2 ⟨p, k, ds, es, e1, hk, wy, hz, q⟩ => wa_nil (by subst e1; exact me_extend hk wy hz q)) he⟩) hp
theorem we_pop (h : WE X F o Γ O fun x O1 => ∃ p k ds y, x = .at p ∧ O1[k]? = some (p, .lst ds) ∧ ds.getLast? = some y ∧ Q y (O1.set k (p, .lst ds.dropLast)))
    (hp : ∀ {to : TE}, PE X o to → PE X (.Call (.Attribute o "pop" apos) [] [] pos) (tBM0 X.K "list" rPop to) := by exact fun h1 => pe_bm0 PySem.F.plainAttrs_list PySem.F.slot_list_pop PySem.F.type_list_pop mt_pop h1) :
    WE X F (.Call (.Attribute o "pop" apos) [] [] pos) Γ O Q :=
  we_bm0 PySem.F.plainAttrs_list PySem.F.slot_list_pop PySem.F.type_list_pop mt_pop (we_imp h fun x O1 ⟨p, k, ds, y, e1, hk, hy, q⟩ => by subst e1; exact ⟨tyr_lst (Vw.own (mem_of_get hk)), me_pop hk hy q⟩) hp
theorem we_popAt (h : WE X F o Γ O fun x O1 => (∃ ds, Vw x O1 (.lst ds)) ∧ WE X F e Γ O1 fun z O2 => ∃ p k ds y, ∃ i : Nat, x = .at p ∧ z = .int (i : Int) ∧ i < 2 ^ 63 ∧ O2[k]? = some (p, .lst ds) ∧ ds[i]? = some y ∧ Q y (O2.set k (p, .lst (ds.eraseIdx i))))
    (he : starEach (e :: []) X.env = (false, eval e X.env) :: starEach [] X.env := by rfl)
    (hp : ∀ {to : TE} {t : TA}, PE X o to → PA X [e] t → PE X (.Call (.Attribute o "pop" apos) [e] [] pos) (tBM X.K "list" rPopAt to t) := by exact fun h1 h2 => pe_bm PySem.F.plainAttrs_list PySem.F.slot_list_pop PySem.F.type_list_pop mt_popAt h1 h2) :
    WE X F (.Call (.Attribute o "pop" apos) [e] [] pos) Γ O Q :=
  we_bm PySem.F.plainAttrs_list PySem.F.slot_list_pop PySem.F.type_list_pop mt_popAt (we_imp h fun x O1 ⟨⟨ds, w⟩, h2⟩ => ⟨tyr_lst w, wa_cons (we_imp h2 fun z O2 ⟨p, k, ds, y, i, e1, e2, hz, hk, hy, q⟩ => wa_nil (by subst e1; subst e2; exact me_popAt hk hz hy q)) he⟩) hp
/-- sep.join(texts) -/
abbrev joinL := TL.joinL
theorem we_join (h : WE X F o Γ O fun x O1 => (∃ l, x = .str l) ∧ WE X F e Γ O1 fun z O2 => ∃ l ls, x = .str l ∧ (Vw z O2 (.lst (ls.map D.str)) ∨ z = .tup (ls.map D.str)) ∧ (ls.map List.length).sum + ls.length * l.length ≤ 16777216 ∧ Q (.str (joinL l ls)) O2)
    (he : starEach (e :: []) X.env = (false, eval e X.env) :: starEach [] X.env := by rfl)
    (hp : ∀ {to te : TE}, PE X o to → PE X e te → PE X (.Call (.Attribute o "join" apos) [e] [] pos) (tM1 (fun x xs H Q => ∃ a p, ∃ ys : List Str, x = .str a ∧ xs = [.ref p] ∧ (SqL X.K H p (ys.map V.str) ∨ SqT X.K H p (ys.map V.str)) ∧ (ys.map (·.length)).sum + ys.length * a.length ≤ 16777216 ∧ Q (.str (Txt.join a ys)) H) to te) := by exact fun h1 h2 => pe_join h1 h2) :
    WE X F (.Call (.Attribute o "join" apos) [e] [] pos) Γ O Q :=
  we_of (hp h (pe_any (e := e))) fun σ H R hd k => ⟨hd, fun x O1 v H1 ⟨⟨l, e1⟩, q1⟩ hd1 s1 r1 => by
    subst e1
    cases r1
    refine ⟨⟨_, rfl⟩, we_run q1 hd1 fun z O2 w H2 ⟨l', ls, e2, hz, hl, q2⟩ hd2 s2 r2 => ?_⟩
    cases e2
    have ej : Txt.join (sOf l) (ls.map sOf) = sOf (joinL l ls) := by
      apply Str.ext'
      apply Array.toList_inj.mp
      rw [TL.join_eq]
      show TL.tl (Str.join (sOf l) (ls.map sOf)) = TL.tl (sOf (joinL l ls))
      rw [TL.tl_join, List.map_map]
      have e4 : (TL.tl ∘ sOf) = id := rfl
      rw [e4, List.map_id]
    have el : ((ls.map sOf).map (·.length)).sum + (ls.map sOf).length * (sOf l).length ≤ 16777216 := by
      have e3 : (ls.map sOf).map (·.length) = ls.map List.length := by
        rw [List.map_map]
        exact List.map_congr_left fun x _ => sOf_len x
      rw [e3, List.length_map, sOf_len]
      exact hl
    have fin := k _ O2 (.str (sOf (joinL l ls))) H2 q2 hd2 (s1.trans s2) (.str _)
    rcases hz with hz | rfl
    · obtain ⟨p, xs, rfl, h1, h2⟩ := hz.lst hd2.os r2
      have ex := of_strs h2
      subst ex
      exact ⟨sOf l, p, ls.map sOf, rfl, rfl, .inl (SqL.of h1), el, by rw [ej]; exact fin⟩
    · cases r2 with
      | @tup p xs _ h1 h2 =>
        have ex := of_strs h2
        subst ex
        exact ⟨sOf l, p, ls.map sOf, rfl, rfl, .inr (h1.mono stb_same).sq, el, by rw [ej]; exact fin⟩⟩
end

/-! ### o[i] = e, o an owned list -/
section
variable {X : Cx} {F : Fx} {Γ : Ga} {O : Ow} {Q : Out} {o i e : Expr} {pos tpos : Pos}
theorem ws_setL (h : WE X F e Γ O fun d O1 => WE X F o Γ O1 fun x O2 => WE X F i Γ O2 fun y O3 => ∃ p k ds j, ∃ n : Int, x = .at p ∧ O3[k]? = some (p, .lst ds) ∧ y = .int n ∧ ixN ds.length n = some j ∧ Q.nx Γ (O3.set k (p, .lst (ds.set j d))))
    (ha : ∀ v, assign (.Subscript o i tpos) X.env v = (do
      let ov ← holding [v] (eval o X.env)
      let iv ← holding [v, ov] (eval i X.env)
      standAt tpos
      holding [v, ov, iv] (setItem ov iv v)
      release [v, ov, iv] []) := by intro _; rfl)
    (hs : swapsWithSole [.Subscript o i tpos] e pos.line X.env = pure false := by rfl) (hw : swappedStores [.Subscript o i tpos] e X.env = pure none := by rfl) (h1 : (assignEach [.Subscript o i tpos] X.env).map (·.2) = [assign (.Subscript o i tpos) X.env] := by rfl) :
    WS X F (.Assign [.Subscript o i tpos] e pos) Γ O Q :=
  ps_weak (ps_asg h (pg_sub (pe_any (e := o)) (pe_any (e := i)) set_list ha) hs hw h1) fun E σ H ⟨hd, w⟩ => ⟨hd, fun d O1 v H1 q1 hd1 s1 r1 => we_run q1 hd1 fun x O2 u H2 q2 hd2 s2 r2 => we_run q2 hd2 fun y O3 z H3 ⟨p, k, ds, j, n, e1, hk, e2, hj, q⟩ hd3 s3 r3 => by
    subst e1; subst e2
    cases r3; cases r2
    obtain ⟨xs, g1, g2⟩ := own_at hd3.os hk
    obtain ⟨h3, h4⟩ := hd3.set (c' := .lst (ds.set j d)) hk (o := .lst (xs.set j v)) ⟨_, upd_same, g2.set j ((r1.mono (ss s2)).mono (ss s3))⟩
    exact ⟨p, xs, n, j, rfl, rfl, g1, by rw [g2.length]; exact hj, w.nx _ _ _ _ q h3 (s1.trans (s2.trans (s3.trans h4)))⟩⟩
end

/-! ### defs -/
/-- what a def's data promise is: its arguments, the cells it may change, what it hands back -/
abbrev PD := List D → Ow → QD → Prop
def spD (K : PySem.W.Frag) (P : PD) : Sp := fun vs H R _ => ∃ (ds : List D) (O : Ow) (Z : List Addr) (Q : QD), (∀ z ∈ Z, z ∉ ads O ∧ ∃ o, H z = some o) ∧
  Reps K (stb ⟨H, ads O, Z⟩ O H) vs ds ∧ OwsOk K ⟨H, ads O, Z⟩ O H ∧ P ds O Q ∧
  ∀ d O' v H', Q d O' → Same (hide (ads O) H) (hide (ads O') H') → OwsOk K ⟨H, ads O, Z⟩ O' H' → Rep K (stb ⟨H, ads O, Z⟩ O' H') v d → R v H'
def startG (n : Nat) (ds : List D) : Ga := ds.map some ++ List.replicate (n - ds.length) none
section
variable {P : Program} {w : World} {K : PySem.W.Frag} {mg : Str → Option Value} {base : Heap}
theorem start_hd {F : Fx} {N : List Str} {vs : List V} {ds : List D} {O : Ow} {H : Hp} (r : Reps K (stb F O H) vs ds) (os : OwsOk K F O H) (fr : Same (hide F.A F.B) (hide (ads O) H)) (zf : F.Ok) : Hd K F (startG N.length ds) O (L2.start N vs) H := by
  refine ⟨?_, fun i d h => ?_, os, fr, zf⟩
  · unfold startG L2.start
    simp [r.length]
  · unfold startG at h
    unfold L2.start
    have hl := r.length
    by_cases hi : i < ds.length
    · rw [List.getElem?_append_left (by simpa using hi), List.getElem?_map] at h
      cases q : ds[i]? with
      | none => rw [q] at h; cases h
      | some d' =>
        rw [q] at h
        cases h
        obtain ⟨v, h1, h2⟩ := r.get q
        exact ⟨v, by rw [List.getElem?_append_left (by simp; omega), List.getElem?_map, h1]; rfl, h2⟩
    · rw [List.getElem?_append_right (by simpa using hi)] at h
      have := List.mem_of_getElem? h
      have := List.eq_of_mem_replicate this
      cases this
theorem ok_fun {x qual : Str} {st : Stmt} {f : Addr} {fd : FuncData} {N ps : List Str} {k : Nat} {PP : PD} (Fn : Fun K x qual st f fd) (S : FnScope N ps (defScope st)) (hlen : ∀ ds O Q, PP ds O Q → ds.length = ps.length)
    (hbody : ∀ (cdv : Value) (A : Around) (outer : List Env) (s : Shared) (H : Hp) (E : XK) (Z : List Addr) (ds : List D) (O : Ow) (Q : QD), Room k (A.deeper (envOfC qual (defScope st) s.heap.objs.size f cdv)) → PP ds O Q →
      WB (cxOf CX0 P w K mg base N qual (defScope st) f cdv A outer s H E).nox ⟨H, ads O, Z⟩ (defBody st) (startG N.length ds) O { nx := fun _ O' => Q .non O', rt := Q }) :
    FnOk P w K mg base CX0 (k + 1) f fd ps (spD K PP) := by
  refine Fn.ok S (fun vs H R E h => ?_) (fun cdv A outer s H vs R E hr h => ?_)
  · obtain ⟨ds, O, Z, Q, _, r, _, p, _⟩ := h
    exact r.length.trans (hlen _ _ _ p)
  · obtain ⟨ds, O, Z, Q, hz, r, os, p, kk⟩ := h
    refine ⟨_, hbody cdv A outer s H E Z ds O Q hr p, start_hd r os same_refl hz, ⟨fun Γ O' σ H' q hd s' => ?_, fun d O' v H' q h s' rv => ?_, fun _ _ _ _ q => q.elim, fun _ _ _ _ q => q.elim⟩⟩
    · exact kk _ _ _ _ q s' hd.os .non
    · exact kk _ _ _ _ q s' h.os rv
end
section
variable {X : Cx} {F : Fx} {Γ : Ga} {Q : QD}
/-- a call from within a body: the cells that it may change, the others -/
theorem call_run {PP : PD} {O1 Os Or : Ow} {σ : L2.St} {H : Hp} {vs : List V} {ds : List D} {R : VK} {E : XK} {Q' : QD} (hd : Hd X.K F Γ O1 σ H) (r : Reps X.K (stb F O1 H) vs ds) (hp : O1.Perm (Os ++ Or)) (hP : PP ds Os Q') (hQ : ∀ d O', Q' d O' → Q d (O' ++ Or))
    (k : ∀ d O' v H', Q d O' → Hd X.K F Γ O' σ H' → Same (hide (ads O1) H) (hide (ads O') H') → Rep X.K (stb F O' H') v d → R v H') : spD X.K PP vs H R E := by
  have pa : (ads O1).Perm (ads Os ++ ads Or) := by
    have := hp.map (·.1)
    rw [List.map_append] at this
    exact this
  have mem1 : ∀ a, a ∈ ads O1 ↔ a ∈ ads Os ∨ a ∈ ads Or := fun a => by rw [pa.mem_iff, List.mem_append]
  have nd := pa.nodup_iff.mp hd.os.nd
  have dis : ∀ a, a ∈ ads Os → a ∉ ads Or := fun a h1 h2 => (List.nodup_append.mp nd).2.2 a h1 a h2 rfl
  have zF : ∀ z, z ∈ F.Z → z ∉ ads O1 ∧ ∃ o, H z = some o := fun z hz => by
    obtain ⟨q1, o, q2⟩ := hd.zf z hz
    obtain ⟨q3, q4⟩ := hide_some (hd.fr z o (hide_of q1 q2))
    exact ⟨q3, o, q4⟩
  have e1 : stb ⟨H, ads Os, F.Z ++ ads Or⟩ Os H = stb F O1 H := hide_congr fun a => by
    show a ∈ (F.Z ++ ads Or) ++ ads Os ↔ a ∈ F.Z ++ ads O1
    simp only [List.mem_append, mem1]
    constructor
    · rintro ((h | h) | h)
      · exact .inl h
      · exact .inr (.inr h)
      · exact .inr (.inl h)
    · rintro (h | h | h)
      · exact .inl (.inl h)
      · exact .inr h
      · exact .inl (.inr h)
  refine ⟨ds, Os, F.Z ++ ads Or, Q', fun z hz => ?_, by rw [e1]; exact r, ⟨(List.nodup_append.mp nd).1, fun a c m => ?_⟩, hP, fun d O' v H' q s os rv => ?_⟩
  · rcases List.mem_append.mp hz with h | h
    · obtain ⟨h1, h2⟩ := zF z h
      exact ⟨fun q => h1 ((mem1 z).mpr (.inl q)), h2⟩
    · refine ⟨fun q => dis z q h, ?_⟩
      obtain ⟨⟨a, c⟩, hm, e0⟩ := List.mem_map.mp h
      have e0' : a = z := e0
      subst e0'
      exact (hd.os.ow a c (hp.mem_iff.mpr (List.mem_append_right _ hm))).there
  · rw [e1]
    exact hd.os.ow a c (hp.mem_iff.mpr (List.mem_append_left _ m))
  · -- behind the call
    have aa : ads (O' ++ Or) = ads O' ++ ads Or := List.map_append
    have e2 : stb ⟨H, ads Os, F.Z ++ ads Or⟩ O' H' = stb F (O' ++ Or) H' := hide_congr fun a => by
      show a ∈ (F.Z ++ ads Or) ++ ads O' ↔ a ∈ F.Z ++ ads (O' ++ Or)
      rw [aa]
      simp only [List.mem_append]
      constructor
      · rintro ((h | h) | h)
        · exact .inl h
        · exact .inr (.inr h)
        · exact .inr (.inl h)
      · rintro (h | h | h)
        · exact .inl (.inl h)
        · exact .inr h
        · exact .inl (.inr h)
    have keep : ∀ a o, a ∉ ads Os → H a = some o → a ∉ ads O' ∧ H' a = some o := fun a o h1 h2 => hide_some (s a o (hide_of h1 h2))
    have orr : ∀ a, a ∈ ads Or → a ∉ ads O' ∧ H' a = H a := fun a h => by
      obtain ⟨⟨a', c⟩, hm, e0⟩ := List.mem_map.mp h
      have e0' : a' = a := e0
      subst e0'
      obtain ⟨o, ho⟩ := (hd.os.ow a' c (hp.mem_iff.mpr (List.mem_append_right _ hm))).there
      obtain ⟨h1, h2⟩ := keep a' o (fun q => dis a' q h) ho
      exact ⟨h1, h2.trans ho.symm⟩
    have s2 : Same (hide (ads O1) H) (hide (ads (O' ++ Or)) H') := fun a o h => by
      obtain ⟨h1, h2⟩ := hide_some h
      have h1' := fun q => h1 ((mem1 a).mpr q)
      obtain ⟨h3, h4⟩ := keep a o (fun q => h1' (.inl q)) h2
      refine hide_of ?_ h4
      rw [aa, List.mem_append, not_or]
      exact ⟨h3, fun q => h1' (.inr q)⟩
    refine k d (O' ++ Or) v H' (hQ d O' q) ⟨hd.len, SlOk.mono (ss s2) hd.sl, ⟨?_, fun a c m => ?_⟩, hd.fr.trans s2, hd.zf⟩ s2 (by rw [← e2]; exact rv)
    · rw [aa]
      refine List.nodup_append.mpr ⟨os.nd, (List.nodup_append.mp nd).2.1, fun a h1 b h2 e => ?_⟩
      subst e
      exact (orr a h2).1 h1
    · rcases List.mem_append.mp m with m | m
      · rw [← e2]
        exact os.ow a c m
      · exact (hd.os.ow a c (hp.mem_iff.mpr (List.mem_append_right _ m))).mono (ss s2) (orr a (mem_ads m)).2
variable {CX : CXT} {O : Ow} {k : Nat} {f : Addr} {fd : FuncData} {ps : List Str} {PP : PD} {E : XK} {x : Str} {p pos : Pos} {e : Expr} {es : List Expr}
/-- the answer of a call, by data -/
def CallD (PP : PD) (ds : List D) (O : Ow) (Q : QD) : Prop := ∃ Os Or Q', O.Perm (Os ++ Or) ∧ PP ds Os Q' ∧ ∀ d O', Q' d O' → Q d (O' ++ Or)
theorem we_call (Fo : FnOk X.prog X.w X.K X.mg X.base CX k f fd ps (spD X.K PP)) (hr : Room k X.A) (hm : X.mg x = some (.ref f)) (hk : PySem.W.keepIn X.K (.ref f) = true) (hb : Binds X.K fd ps []) (hx : Passes CX X E)
    (h : WA X F (e :: es) Γ O fun ds O1 => CallD PP ds O1 Q) (hg : Gl X x := by rfl) (hdb : (x == ("__debug__" : Str)) = false := by decide) (he : starEach (e :: es) X.env = (false, eval e X.env) :: starEach es X.env := by rfl) (hpl : (backTo pos (starEach es X.env)).any (·.1) = false := by rfl) :
    WE X F (.Call (.Name x p) (e :: es) [] pos) Γ O Q :=
  we_of (pe_call Fo hr hg hm hk hb .nil hx h hdb he hpl) fun σ H R hd kk => ⟨hd, fun ds O1 vs H1 ⟨Os, Or, Q', hp, hP, hQ⟩ hd1 s1 r1 => by
    show spD X.K PP (vs ++ []) H1 R E
    rw [List.append_nil]
    exact call_run hd1 r1 hp hP hQ fun d O' v H' q hd' s' r' => kk d O' v H' q hd' (s1.trans s') r'⟩
/-- no cell is changed -/
theorem cd_0 {ds : List D} {Q' : QD} (hP : PP ds [] Q') (hQ : ∀ d O', Q' d O' → Q d (O' ++ O)) : CallD PP ds O Q := ⟨[], O, Q', List.Perm.refl _, hP, hQ⟩
end
end Dl

namespace Dl
open PySem PySem.Spec PyProof.Rows L2

/-! ### isinstance -/
def tyName : D → Option String
  | .non => some "NoneType"
  | .bl _ => some "bool"
  | .int _ => some "int"
  | .str _ => some "str"
  | .lst _ => some "list"
  | .tup _ => some "tuple"
  | _ => none
section
variable {X : Cx} {F : Fx} {Γ : Ga} {O : Ow} {Q : QD} {a b : Expr} {pos p : Pos}
/-- a class as data -/
inductive ClsD : D → Value → Prop
  | ty (n : String) : ClsD (.ty n) (.type n)
  | own (C : Addr) : ClsD (.at C) (.ref C)
theorem ClsD.v {K : PySem.W.Frag} {H : Hp} {c : D} {u : Value} {v : V} (h : ClsD c u) (r : Rep K H v c) : ClsV v u := by
  cases h with
  | ty n => cases r; exact .ty n
  | own C => cases r; exact .own C
theorem tyx_of {K : PySem.W.Frag} {H : Hp} {v : V} {x : D} {T : String} (h : tyName x = some T) (r : Rep K H v x) : TyX K H v (.type T) := by
  cases r with
  | non => cases h; exact .base .non
  | bl b => cases h; exact .base (.bl b)
  | int i => cases h; exact .base (.int i)
  | str l => cases h; exact .base (.str _)
  | lst h1 h2 => cases h; exact .base (.lst h1)
  | tup h1 h2 =>
    cases h
    rcases h1 with h1 | ⟨o, its, n, k1, k2, k3, _⟩
    · exact .base (.tup h1)
    · exact .kTuple k1 k2
  | ty n => cases h
  | rl _ _ => cases h
  | ins _ _ => cases h
  | «at» _ => cases h
/-- isinstance(x, c) gives r -/
def IsiOk (X : Cx) (F : Fx) (x c : D) (O : Ow) (r : Bool) : Prop := ∃ t u, ClsD c u ∧ (∀ H v, OwsOk X.K F O H → Rep X.K (stb F O H) v x → TyX X.K H v t) ∧ PySem.W.kitOne X.K t u = some r
theorem isi_of {x y : D} {T n : String} {r : Bool} (w : Vw x O y) (h : tyName y = some T) (hk : kitB T n = some r) : IsiOk X F x (.ty n) O r :=
  ⟨.type T, .type n, .ty n, fun H v os rv => tyx_of h (w.rep os rv), kit_ty hk⟩
theorem isi_own {x y : D} {T : String} {C : Addr} {r : Bool} (w : Vw x O y) (h : tyName y = some T) (hk : PySem.W.kitOne X.K (.type T) (.ref C) = some r) : IsiOk X F x (.at C) O r :=
  ⟨.type T, .ref C, .own C, fun H v os rv => tyx_of h (w.rep os rv), hk⟩
/-- what isinstance asks of a class of one's own -/
structure InsTy (K : PySem.W.Frag) (C : Addr) : Prop where
  cl : Cls K C
  ha : PySem.W.findIn K (.ref C) "__class__" = some (some (.builtin "object.__class__"))
  hn : PySem.W.specialIn K (.builtin "object.__class__") "__get__" = some (some (.builtin "getset_descriptor.__get__"))
  ht : PySem.W.takesIn K (.builtin "object.__class__") = some true
  hm : PySem.W.mroIn K C (.type "object") = some true
theorem isi_ins {C : Addr} {gs : List (Str × D)} {c : D} {u : Value} {r : Bool} (T : InsTy X.K C) (hc : ClsD c u) (hk : PySem.W.kitOne X.K (.ref C) u = some r) : IsiOk X F (.ins C gs) c O r :=
  ⟨.ref C, u, hc, fun H v os rv => by
    cases rv with
    | ins h1 h2 => exact .base (.ins (stb_same _ _ h1) T.cl T.ha T.hn T.ht T.hm), hk⟩
theorem isi_insO {C : Addr} {gs : List (Str × D)} {k : Nat} {q : Addr} {c : D} {u : Value} {r : Bool} (h : O[k]? = some (q, .ins C gs)) (T : InsTy X.K C) (hc : ClsD c u) (hk : PySem.W.kitOne X.K (.ref C) u = some r) : IsiOk X F (.at q) c O r :=
  ⟨.ref C, u, hc, fun H v os rv => by
    cases rv
    obtain ⟨dx, fs, h1, h2⟩ := os.ow q _ (mem_of_get h)
    exact .base (.ins h1 T.cl T.ha T.hn T.ht T.hm), hk⟩
theorem kit_self {K : PySem.W.Frag} {t : Value} : PySem.W.kitOne K t t = some true := by
  unfold PySem.W.kitOne
  rw [if_pos (beq_self_eq_true t)]
theorem we_isi (hm : X.mg "isinstance" = none) (h : WE X F a Γ O fun x O1 => WE X F b Γ O1 fun c O2 => ∃ r, IsiOk X F x c O2 r ∧ Q (.bl r) O2) (hg : Gl X "isinstance" := by rfl)
    (he : starEach (a :: [b]) X.env = (false, eval a X.env) :: starEach [b] X.env := by rfl) (he2 : starEach (b :: []) X.env = (false, eval b X.env) :: starEach [] X.env := by rfl) (hpl : (backTo pos (starEach [b] X.env)).any (·.1) = false := by rfl) :
    WE X F (.Call (.Name "isinstance" p) [a, b] [] pos) Γ O Q :=
  we_cal (fun ha => pe_callB call_isi hg hm (by decide +kernel) ha (by decide) (by decide) he hpl) (wa_cons (we_imp h fun x O1 h => wa_cons (we_imp h fun c O2 ⟨r, ⟨t, u, hc, ht, hk⟩, q⟩ => wa_nil fun σ H vs R hd hv k => by
    cases hv with
    | cons hv hn =>
      cases hn with
      | cons hu hn =>
        cases hn
        exact ⟨_, _, t, u, r, rfl, hc.v hu, ht H _ hd.os hv, hk, k _ O2 _ H q hd same_refl (.bl _)⟩) he2) he)

/-! ### globals -/
theorem we_gS (l : List Nat) {n z : Str} (hm : ∃ t, X.mg n = some (.str z t)) (q : Q (.str l) O) (hl : z.cps.toList = l := by decide +kernel) (hg : Gl X n := by rfl) (hd : (n == ("__debug__" : Str)) = false := by decide) : WE X F (.Name n pos) Γ O Q := by
  obtain ⟨t, hm⟩ := hm
  exact we_glob hg hm (v := .str z) ⟨t, rfl⟩ (fun _ _ => rep_str hl) q hd
theorem we_gI {i : Int} {n : Str} (hm : ∃ t, X.mg n = some (.int i t)) (q : Q (.int i) O) (hg : Gl X n := by rfl) (hd : (n == ("__debug__" : Str)) = false := by decide) : WE X F (.Name n pos) Γ O Q := by
  obtain ⟨t, hm⟩ := hm
  exact we_glob hg hm (v := .int i) ⟨t, rfl⟩ (fun _ _ => .int i) q hd
/-- a class or a def of the module as a value -/
theorem we_gR {C : Addr} {n : Str} (hm : X.mg n = some (.ref C)) (q : Q (.at C) O) (hg : Gl X n := by rfl) (hd : (n == ("__debug__" : Str)) = false := by decide) : WE X F (.Name n pos) Γ O Q :=
  we_glob hg hm (v := .ref C) rfl (fun _ _ => .at C) q hd
/-- a built-in type as a value -/
theorem we_bT {T : String} {n : Str} (hm : X.mg n = none) (q : Q (.ty T) O) (hv : bootBuiltins n = some (.type T) := by decide +kernel) (hg : Gl X n := by rfl) (hn : n ≠ "__name__" := by decide) (hd : (n == ("__debug__" : Str)) = false := by decide) : WE X F (.Name n pos) Γ O Q :=
  we_blt hg hm hv (v := .ty T) rfl (fun _ _ => .ty T) q hn hd

/-! ### in a list or a tuple of texts or ints -/
theorem in_strs (l : List Nat) (ls : List (List Nat)) : inV (.str (sOf l)) ((ls.map sOf).map V.str) = decide (l ∈ ls) := by
  induction ls with
  | nil => rfl
  | cons m r ih =>
    unfold inV at ih ⊢
    rw [List.map_cons, List.map_cons, List.any_cons, ih]
    have e : eqV (.str (sOf m)) (.str (sOf l)) = decide (l = m) := by
      show (sOf m == sOf l) = _
      rw [sOf_beq, Bool.eq_iff_iff, beq_iff_eq, decide_eq_true_iff]
      exact ⟨fun z => z.symm, fun z => z.symm⟩
    rw [e, Bool.eq_iff_iff, Bool.or_eq_true, decide_eq_true_iff, decide_eq_true_iff, decide_eq_true_iff, List.mem_cons]
theorem flat_strs (ls : List (List Nat)) : ((ls.map sOf).map V.str).all flatV = true := List.all_eq_true.mpr fun x hx => by
  obtain ⟨y, _, rfl⟩ := List.mem_map.mp hx
  rfl
theorem in_ints (l : Int) (ls : List Int) : inV (.int l) (ls.map V.int) = decide (l ∈ ls) := by
  induction ls with
  | nil => rfl
  | cons m r ih =>
    unfold inV at ih ⊢
    rw [List.map_cons, List.any_cons, ih]
    have e : eqV (.int m) (.int l) = decide (l = m) := by
      show (m == l) = _
      rw [Bool.eq_iff_iff, beq_iff_eq, decide_eq_true_iff]
      exact ⟨fun z => z.symm, fun z => z.symm⟩
    rw [e, Bool.eq_iff_iff, Bool.or_eq_true, decide_eq_true_iff, decide_eq_true_iff, decide_eq_true_iff, List.mem_cons]
theorem flat_ints (ls : List Int) : (ls.map V.int).all flatV = true := List.all_eq_true.mpr fun x hx => by
  obtain ⟨y, _, rfl⟩ := List.mem_map.mp hx
  rfl
theorem seq_strs {K : PySem.W.Frag} {H : Hp} {v : V} {y : D} {ls : List (List Nat)} (w : Vw y O (.lst (ls.map D.str)) ∨ y = .tup (ls.map D.str)) (os : OwsOk K F O H) (r : Rep K (stb F O H) v y) :
    ∃ p, v = .ref p ∧ (SqL K H p ((ls.map sOf).map V.str) ∨ SqT K H p ((ls.map sOf).map V.str)) := by
  rcases w with w | rfl
  · obtain ⟨p, xs, rfl, h1, h2⟩ := w.lst os r
    rw [of_strs h2] at h1
    exact ⟨p, rfl, .inl (SqL.of h1)⟩
  · cases r with
    | @tup p xs _ h1 h2 =>
      rw [of_strs h2] at h1
      exact ⟨p, rfl, .inr (h1.mono stb_same).sq⟩
theorem opd_inT {l : List Nat} {ls : List (List Nat)} {y : D} (w : Vw y O (.lst (ls.map D.str)) ∨ y = .tup (ls.map D.str)) (q : Q (.bl (decide (l ∈ ls))) O) : OpD X F (rIn X.K false) (.str l) y Γ O Q := fun σ H v u R hd hv hu k => by
  obtain ⟨p, rfl, h⟩ := seq_strs w hd.os hu
  cases hv
  refine ⟨p, _, rfl, h, rfl, flat_strs ls, ?_⟩
  rw [if_neg Bool.false_ne_true, in_strs]
  exact k _ O _ H q hd same_refl (.bl _)
theorem opd_ninT {l : List Nat} {ls : List (List Nat)} {y : D} (w : Vw y O (.lst (ls.map D.str)) ∨ y = .tup (ls.map D.str)) (q : Q (.bl (!decide (l ∈ ls))) O) : OpD X F (rIn X.K true) (.str l) y Γ O Q := fun σ H v u R hd hv hu k => by
  obtain ⟨p, rfl, h⟩ := seq_strs w hd.os hu
  cases hv
  refine ⟨p, _, rfl, h, rfl, flat_strs ls, ?_⟩
  rw [if_pos rfl, in_strs]
  exact k _ O _ H q hd same_refl (.bl _)
theorem seq_ints {K : PySem.W.Frag} {H : Hp} {v : V} {y : D} {ls : List Int} (w : Vw y O (.lst (ls.map D.int)) ∨ y = .tup (ls.map D.int)) (os : OwsOk K F O H) (r : Rep K (stb F O H) v y) :
    ∃ p, v = .ref p ∧ (SqL K H p (ls.map V.int) ∨ SqT K H p (ls.map V.int)) := by
  rcases w with w | rfl
  · obtain ⟨p, xs, rfl, h1, h2⟩ := w.lst os r
    rw [of_ints h2] at h1
    exact ⟨p, rfl, .inl (SqL.of h1)⟩
  · cases r with
    | @tup p xs _ h1 h2 =>
      rw [of_ints h2] at h1
      exact ⟨p, rfl, .inr (h1.mono stb_same).sq⟩
theorem opd_inN {l : Int} {ls : List Int} {y : D} (w : Vw y O (.lst (ls.map D.int)) ∨ y = .tup (ls.map D.int)) (q : Q (.bl (decide (l ∈ ls))) O) : OpD X F (rIn X.K false) (.int l) y Γ O Q := fun σ H v u R hd hv hu k => by
  obtain ⟨p, rfl, h⟩ := seq_ints w hd.os hu
  cases hv
  refine ⟨p, _, rfl, h, rfl, flat_ints ls, ?_⟩
  rw [if_neg Bool.false_ne_true, in_ints]
  exact k _ O _ H q hd same_refl (.bl _)
theorem opd_ninN {l : Int} {ls : List Int} {y : D} (w : Vw y O (.lst (ls.map D.int)) ∨ y = .tup (ls.map D.int)) (q : Q (.bl (!decide (l ∈ ls))) O) : OpD X F (rIn X.K true) (.int l) y Γ O Q := fun σ H v u R hd hv hu k => by
  obtain ⟨p, rfl, h⟩ := seq_ints w hd.os hu
  cases hv
  refine ⟨p, _, rfl, h, rfl, flat_ints ls, ?_⟩
  rw [if_pos rfl, in_ints]
  exact k _ O _ H q hd same_refl (.bl _)
end
end Dl

namespace Dl
open PySem PySem.Spec PyProof.Rows L2

section
variable {X : Cx} {F : Fx} {Γ : Ga} {O : Ow} {Q : QD} {QT : Bool → Ow → Prop} {a b c e : Expr} {rest : List Expr} {pos p : Pos}
/-! ### and, or with one way on -/
theorem we_andD {r : Bool} (h : WE X F a Γ O fun x O1 => ∃ k, x = .bl k ∧ (k = true → WE X F (.BoolOp .And (b :: rest) pos) Γ O1 fun d O2 => d = .bl r ∧ O2 = O1) ∧ Q (.bl (k && r)) O1) : WE X F (.BoolOp .And (a :: b :: rest) pos) Γ O Q :=
  we_and (we_imp h fun x O1 ⟨k, e, h1, h2⟩ => ⟨k, e, fun ek => we_imp (h1 ek) fun d O2 ⟨e1, e2⟩ => by subst e1; subst e2; rw [ek, Bool.true_and] at h2; exact h2, fun ek => by rw [ek, Bool.false_and] at h2; exact h2⟩)
theorem we_orD {r : Bool} (h : WE X F a Γ O fun x O1 => ∃ k, x = .bl k ∧ (k = false → WE X F (.BoolOp .Or (b :: rest) pos) Γ O1 fun d O2 => d = .bl r ∧ O2 = O1) ∧ Q (.bl (k || r)) O1) : WE X F (.BoolOp .Or (a :: b :: rest) pos) Γ O Q :=
  we_or (we_imp h fun x O1 ⟨k, e, h1, h2⟩ => ⟨k, e, fun ek => by rw [ek, Bool.true_or] at h2; exact h2, fun ek => we_imp (h1 ek) fun d O2 ⟨e1, e2⟩ => by subst e1; subst e2; rw [ek, Bool.false_or] at h2; exact h2⟩)
theorem ww_imp {e : Expr} {Q Q' : Bool → Ow → Prop} (h : WW X F e Γ O Q') (k : ∀ d O', Q' d O' → Q d O') : WW X F e Γ O Q := pw_weak h fun σ H R ⟨h1, h2⟩ => ⟨h1, fun d O' H' q => h2 d O' H' (k d O' q)⟩
theorem ww_andD {r : Bool} (h : WT X F a Γ O fun k O1 => (k = true → WW X F (.BoolOp .And (b :: rest) pos) Γ O1 fun d O2 => d = r ∧ O2 = O1) ∧ QT (k && r) O1) : WW X F (.BoolOp .And (a :: b :: rest) pos) Γ O QT :=
  ww_and (wt_imp h fun k O1 ⟨h1, h2⟩ => ⟨fun ek => ww_imp (h1 ek) fun d O2 ⟨e1, e2⟩ => by subst e1; subst e2; rw [ek, Bool.true_and] at h2; exact h2, fun ek => by rw [ek, Bool.false_and] at h2; exact h2⟩)
theorem ww_orD {r : Bool} (h : WT X F a Γ O fun k O1 => (k = false → WW X F (.BoolOp .Or (b :: rest) pos) Γ O1 fun d O2 => d = r ∧ O2 = O1) ∧ QT (k || r) O1) : WW X F (.BoolOp .Or (a :: b :: rest) pos) Γ O QT :=
  ww_or (wt_imp h fun k O1 ⟨h1, h2⟩ => ⟨fun ek => by rw [ek, Bool.true_or] at h2; exact h2, fun ek => ww_imp (h1 ek) fun d O2 ⟨e1, e2⟩ => by subst e1; subst e2; rw [ek, Bool.false_or] at h2; exact h2⟩)
theorem ww_of (h : WT X F e Γ O QT) (hw : ∀ t, PT X e t → PW X e t) : WW X F e Γ O QT := hw _ h

/-! ### a < b < c, ints and texts -/
def CO (op : CmpOp) (i j : Int) : Bool := match op with
  | .Lt => decide (i < j)
  | .LtE => decide (i ≤ j)
  | .Gt => decide (j < i)
  | .GtE => decide (j ≤ i)
  | _ => false
def rCO (op : CmpOp) : R2 := rI0 fun i j => .bl (CO op i j)
theorem we_chainG {op op' : CmpOp} {f g : Int → Int → Bool} (ho : OpR X (compareOp op) (rI0 fun i j => .bl (f i j))) (ho' : OpR X (compareOp op') (rI0 fun i j => .bl (g i j)))
    (hp : ∀ {ta tb tc : TE}, PE X a ta → PE X b tb → PE X c tc → PE X (.Compare a [op, op'] [b, c] pos) (tChain (rI0 fun i j => .bl (f i j)) (rI0 fun i j => .bl (g i j)) ta tb tc))
    (h : WE X F a Γ O fun x O1 => WE X F b Γ O1 fun y O2 => ∃ i j, ∃ n : Int, x = .int i ∧ y = .int j ∧ (f i j = true → WE X F c Γ O2 fun z O3 => z = .int n ∧ O3 = O2) ∧ Q (.bl (f i j && g j n)) O2) : WE X F (.Compare a [op, op'] [b, c] pos) Γ O Q :=
  we_of (hp h (pe_any (e := b)) (pe_any (e := c))) fun σ H R hd k => ⟨hd, fun d1 O1 v1 H1 q1 hd1 s1 r1 => we_run q1 hd1 fun d2 O2 v2 H2 ⟨i, j, n, e1, e2, hc, q2⟩ hd2 s2 r2 => by
    subst e1; subst e2
    cases r1; cases r2
    refine ⟨i, j, rfl, rfl, f i j, rfl, ?_⟩
    cases ef : f i j with
    | true =>
      rw [if_pos rfl]
      refine we_run (hc ef) hd2 fun d3 O3 v3 H3 ⟨e3, e4⟩ hd3 s3 r3 => ?_
      subst e3; subst e4
      cases r3
      refine ⟨j, n, rfl, rfl, ?_⟩
      rw [ef, Bool.true_and] at q2
      exact k _ O3 _ H3 q2 hd3 (s1.trans (s2.trans s3)) (.bl _)
    | false =>
      rw [if_neg Bool.false_ne_true]
      rw [ef, Bool.false_and] at q2
      exact k _ O2 _ H2 q2 hd2 (s1.trans s2) (.bl _)⟩
theorem wt_chainG {op op' : CmpOp} {f g : Int → Int → Bool} (ho : OpR X (compareOp op) (rI0 fun i j => .bl (f i j))) (ho' : OpR X (compareOp op') (rI0 fun i j => .bl (g i j)))
    (hp : ∀ {ta tb tc : TE}, PE X a ta → PE X b tb → PE X c tc → PT X (.Compare a [op, op'] [b, c] pos) (tTest (tChain (rI0 fun i j => .bl (f i j)) (rI0 fun i j => .bl (g i j)) ta tb tc)))
    (h : WE X F a Γ O fun x O1 => WE X F b Γ O1 fun y O2 => ∃ i j, ∃ n : Int, x = .int i ∧ y = .int j ∧ (f i j = true → WE X F c Γ O2 fun z O3 => z = .int n ∧ O3 = O2) ∧ QT (f i j && g j n) O2) : WT X F (.Compare a [op, op'] [b, c] pos) Γ O QT :=
  wt_of (hp h (pe_any (e := b)) (pe_any (e := c))) fun σ H R hd k => ⟨hd, fun d1 O1 v1 H1 q1 hd1 s1 r1 => we_run q1 hd1 fun d2 O2 v2 H2 ⟨i, j, n, e1, e2, hc, q2⟩ hd2 s2 r2 => by
    subst e1; subst e2
    cases r1; cases r2
    refine ⟨i, j, rfl, rfl, f i j, rfl, ?_⟩
    cases ef : f i j with
    | true =>
      rw [if_pos rfl]
      refine we_run (hc ef) hd2 fun d3 O3 v3 H3 ⟨e3, e4⟩ hd3 s3 r3 => ?_
      subst e3; subst e4
      cases r3
      refine ⟨j, n, rfl, rfl, g j n, rfl, ?_⟩
      rw [ef, Bool.true_and] at q2
      exact k _ O3 H3 q2 hd3 (s1.trans (s2.trans s3))
    | false =>
      rw [if_neg Bool.false_ne_true]
      rw [ef, Bool.false_and] at q2
      exact ⟨false, rfl, k _ O2 H2 q2 hd2 (s1.trans s2)⟩⟩

/-! ### texts repeated, read backwards -/
theorem foldl_cps (l : List Nat) : ∀ (n : Nat) (acc : Array Nat), (List.foldl (· ++ ·) acc (List.replicate n (sOf l).cps)) = acc ++ ((List.replicate n l).flatten).toArray
  | 0, acc => by simp
  | n + 1, acc => by
    rw [List.replicate_succ, List.foldl_cons, foldl_cps l n, List.replicate_succ, List.flatten_cons]
    simp [sOf]
theorem op_repS : OpR X (binaryOp .Mult) (fun x y H Q => ∃ (l : List Nat) (n : Int), x = .str (sOf l) ∧ y = .int n ∧ 0 ≤ n ∧ n ≤ 100000 ∧ l.length ≤ 100000 ∧ l.length * n.toNat ≤ sizeLine ∧ Q (.str (sOf (repL l n))) H) := by
  intro pins s σ H x y v u Q I rx ry h
  obtain ⟨l, n, rfl, rfl, h0, h1, h2, h3, q⟩ := h
  obtain ⟨t, rfl⟩ := rx
  obtain ⟨t', rfl⟩ := ry
  refine PySem.P.mul_str ?_ ?_ ?_ ?_
  · rw [decide_eq_false (by omega), decide_eq_false (by omega)]; rfl
  · intro hn hne hgt
    rw [sOf_len] at hgt
    have h5 : (100000 : Int) ≤ ((2 : Int) ^ 63 - 1) / n := Int.le_ediv_of_mul_le (by omega) (by omega)
    omega
  · intro hn hne
    rw [sOf_len]
    show decide (_ > sizeLine) = false
    exact decide_eq_false (by omega)
  · by_cases hn : n < 1
    · rw [if_pos hn]
      have e0 : n = 0 := by omega
      subst e0
      exact ⟨by decide, .str (sOf (repL l 0)), H, I.tok _, ⟨s.toks, by simp [repL, sOf, Str.empty]⟩, q⟩
    · rw [if_neg hn]
      by_cases hc : (n == 1 || (sOf l).length == 0) = true
      · rw [if_pos hc]
        have e1 : repL l n = l := by
          rcases Bool.or_eq_true_iff.mp hc with z | z
          · rw [eq_of_beq z]
            simp [repL]
          · have z' := eq_of_beq z
            rw [sOf_len] at z'
            have := List.eq_nil_of_length_eq_zero z'
            subst this
            simp [repL]
        rw [e1] at q
        exact ⟨.str (sOf l), H, I, ⟨_, rfl⟩, q⟩
      · rw [if_neg hc, foldl_cps]
        have e2 : (⟨#[] ++ ((List.replicate n.toNat l).flatten).toArray⟩ : Str) = sOf (repL l n) := by simp [sOf, repL]
        rw [e2]
        refine ⟨?_, .str (sOf (repL l n)), H, I.tok _, ⟨_, rfl⟩, q⟩
        rw [sOf_len]
        have : (repL l n).length = n.toNat * l.length := by simp [repL]
        rw [this, Nat.mul_comm]
        exact h3
theorem we_repS (h : WE X F a Γ O fun x O1 => WE X F b Γ O1 fun y O2 => ∃ l n, x = .str l ∧ y = .int n ∧ (0 ≤ n ∧ n ≤ 100000 ∧ l.length ≤ 100000 ∧ l.length * n.toNat ≤ sizeLine) ∧ Q (.str (repL l n)) O2) : WE X F (.BinOp a .Mult b pos) Γ O Q :=
  we_bin (pe_op op_repS) (we_imp h fun x O1 h => we_imp h fun y O2 ⟨l, n, e1, e2, ⟨h0, h1, h2, h3⟩, q⟩ => fun σ H v u R hd hv hu k => by
    subst e1; subst e2; cases hv; cases hu
    exact ⟨l, n, rfl, rfl, h0, h1, h2, h3, k _ O2 _ H q hd same_refl (.str _)⟩)
def tRevS (te : TE) : TE := fun σ H Q => te σ H fun x H1 => ∃ l, x = .str (sOf l) ∧ l.length ≤ sizeLine ∧ Q (.str (sOf l.reverse)) H1
theorem revS_made (l : List Nat) (t u : Tok) : sliceMade (sOf l) t none none (some ((-1 : Int), u)) = .str (sOf l.reverse) := by
  unfold sliceMade slicePicked
  have e : Builtin.Str.strSliceIndices (none : Option Int) none (-1) (sOf l).length = (List.range (sOf l).cps.size).reverse := by
    show sliceRange (((sOf l).length : Int) - 1) (-1) (-1) = _
    rw [PySem.W.krv_sliceRange]
    exact PySem.W.krv_range _
  show (if (((-1 : Int) == 1) && _) = true then _ else _) = _
  show Made.str ⟨((List.filterMap (fun i => (sOf l).cps[i]?) (Builtin.Str.strSliceIndices none none (-1) (sOf l).length)).toArray)⟩ = _
  rw [e, List.filterMap_reverse, PySem.W.krv_all]
theorem pe_revS {k : Nat} {p1 p2 p3 : Pos} {te : TE} (he : PE X e te) : PE X (.Subscript e (.Slice none none (some (.UnaryOp .USub (.Constant (.int 1) k p1) p2)) p3) pos) (tRevS te) := by
  refine ⟨fun pins s σ H Q I h => ?_⟩
  refine Subscript_ (thn (he.run pins s σ H _ I h) fun v s1 ⟨x, H1, I1, r1, q1⟩ => ?_)
  obtain ⟨l, ex, hz, q⟩ := q1
  subst ex
  obtain ⟨t, rfl⟩ := r1
  have hst : PO X (some (.UnaryOp .USub (.Constant (.int 1) k p1) p2)) (tPart (tUn (rU fun i => .int (-i)) (tC (.int 1)))) := po_some (pe_un un_neg pe_int)
  refine wpAny_Slice (thn (po_none.run pins s1 σ H1 (fun o H2 => o = none ∧ H2 = H1) I1 ⟨rfl, rfl⟩) fun vl s2 ⟨o1, H2, I2, pl, el, e2⟩ => ?_)
  subst el e2
  refine thn (po_none.run pins s2 σ H2 (fun o H3 => o = none ∧ H3 = H2) I2 ⟨rfl, rfl⟩) fun vu s3 ⟨u, H3, I3, pu, eu, e3⟩ => ?_
  subst eu e3
  refine thn (hst.run pins s3 σ H3 (fun o H4 => o = some (-1) ∧ H4 = H3) I3 ⟨1, rfl, -1, rfl, rfl, rfl⟩) fun vs s4 ⟨o, H4, I4, ps, eo, e4⟩ => ?_
  subst eo e4
  have I5 : Inv X pins σ H4 { s4 with heap := s4.heap.push { cls := .type "slice", data := .fields #[vl, vu, vs] } } := I4.kept (t' := s4.toks) fun b ob q => Heap.get?_push_of_some _ q
  cases pl
  cases pu
  cases ps with
  | int i uk =>
    show wpAny (model X.prog X.w) X.A (subscriptTail e (.Slice none none (some (.UnaryOp .USub (.Constant (.int 1) k p1) p2)) p3) (.str (sOf l) t) (.ref s4.heap.objs.size)) (EP X pins σ Q) X.xe { s4 with heap := s4.heap.push { cls := .type "slice", data := .fields #[.none, .none, .int (-1) uk] } }
    refine tail_any (ops := [.ref s4.heap.objs.size, .str (sOf l) t]) (typeIs_str _ (sOf l) t) F.slot_str_getitem.lookup ?_ (by with_unfolding_all rfl)
    refine wpAny_getItem_str_slice (l := none) (u := none) (st := some (-1, uk)) ⟨_, Heap.get?_push_size _ rfl, rfl, rfl⟩ rfl ?_
    rw [revS_made]
    refine ⟨?_, .str (sOf l.reverse), H4, I5.tok _, ⟨_, rfl⟩, q⟩
    show (sOf l.reverse).length ≤ sizeLine
    rw [sOf_len, List.length_reverse]
    exact hz
theorem we_revS {k : Nat} {p1 p2 p3 : Pos} (h : WE X F e Γ O fun x O1 => ∃ l, x = .str l ∧ l.length ≤ sizeLine ∧ Q (.str l.reverse) O1) : WE X F (.Subscript e (.Slice none none (some (.UnaryOp .USub (.Constant (.int 1) k p1) p2)) p3) pos) Γ O Q :=
  we_of (pe_revS h) fun σ H R hd kk => ⟨hd, fun x O1 v H1 ⟨l, e1, hz, q⟩ hd1 s1 r1 => by
    subst e1; cases r1
    exact ⟨l, rfl, hz, kk _ O1 _ H1 q hd1 s1 (.str _)⟩⟩
theorem we_revL {k : Nat} {p1 p2 p3 : Pos} (h : WE X F e Γ O fun x O1 => ∃ ds, Vw x O1 (.lst ds) ∧ NewL ds.reverse O1 Q) : WE X F (.Subscript e (.Slice none none (some (.UnaryOp .USub (.Constant (.int 1) k p1) p2)) p3) pos) Γ O Q :=
  we_of (pe_revL h) fun σ H R hd kk => ⟨hd, fun x O1 v H1 ⟨ds, w, q⟩ hd1 s1 r1 => by
    obtain ⟨p', xs, rfl, h1, h2⟩ := w.lst hd1.os r1
    exact ⟨p', xs, rfl, SqL.of h1, q.run hd1 h2.reverse fun d O' w' H' q hd' s' r' => kk d O' w' H' q hd' (s1.trans s') r'⟩⟩

/-! ### calls: what is changed -/
theorem cd0 {PP : PD} {ds : List D} (hP : PP ds [] fun d O' => Q d (O' ++ O)) : CallD PP ds O Q := ⟨[], O, _, List.Perm.refl _, hP, fun _ _ h => h⟩
end
section
variable {K : PySem.W.Frag} {F : Fx} {Γ : Ga} {O O' : Ow} {σ : L2.St} {H : Hp}
/-- the order of the cells does not matter -/
theorem Hd.perm (h : Hd K F Γ O σ H) (p : O.Perm O') : Hd K F Γ O' σ H ∧ Same (hide (ads O) H) (hide (ads O') H) := by
  have pa : (ads O).Perm (ads O') := List.Perm.map (fun x : Addr × OC => x.1) p
  have e1 : hide (ads O') H = hide (ads O) H := hide_congr fun a => pa.symm.mem_iff
  have e2 : stb F O' H = stb F O H := hide_congr fun a => by rw [List.mem_append, List.mem_append, pa.symm.mem_iff]
  refine ⟨⟨h.len, by rw [e2]; exact h.sl, ⟨pa.nodup_iff.mp h.os.nd, fun a c m => ?_⟩, by rw [e1]; exact h.fr, h.zf⟩, by rw [e1]; exact same_refl⟩
  rw [e2]
  exact h.os.ow a c (p.symm.mem_iff.mp m)
end
section
variable {X : Cx} {F : Fx} {Γ : Ga} {O : Ow} {Q : QD} {e : Expr} {es : List Expr} {x : Str} {p pos : Pos} {CX : CXT} {k : Nat} {f : Addr} {fd : FuncData} {ps : List Str} {PP : PD} {E : XK}
theorem perm_get {c : Addr × OC} : ∀ {O : Ow} {i : Nat}, O[i]? = some c → O.Perm (c :: O.eraseIdx i)
  | [], _, h => by simp at h
  | a :: r, 0, h => by
    simp at h; subst h
    exact List.Perm.refl _
  | a :: r, i + 1, h => by
    have q := perm_get (O := r) (i := i) (by simpa using h)
    exact (q.cons a).trans (List.Perm.swap _ _ _)
theorem perm_set {c c' : Addr × OC} : ∀ {O : Ow} {i : Nat}, O[i]? = some c → (c' :: O.eraseIdx i).Perm (O.set i c')
  | [], _, h => by simp at h
  | a :: r, 0, h => List.Perm.refl _
  | a :: r, i + 1, h => by
    have q := perm_set (c' := c') (O := r) (i := i) (by simpa using h)
    exact (List.Perm.swap _ _ _).trans (q.cons a)
/-- as we_call, the cells behind in any order -/
theorem we_callP (Fo : FnOk X.prog X.w X.K X.mg X.base CX k f fd ps (spD X.K PP)) (hr : Room k X.A) (hm : X.mg x = some (.ref f)) (hk : PySem.W.keepIn X.K (.ref f) = true) (hb : Binds X.K fd ps []) (hx : Passes CX X E)
    (h : WA X F (e :: es) Γ O fun ds O1 => CallD PP ds O1 fun d O2 => ∃ O3, O2.Perm O3 ∧ Q d O3) (hg : Gl X x := by rfl) (hdb : (x == ("__debug__" : Str)) = false := by decide) (he : starEach (e :: es) X.env = (false, eval e X.env) :: starEach es X.env := by rfl) (hpl : (backTo pos (starEach es X.env)).any (·.1) = false := by rfl) :
    WE X F (.Call (.Name x p) (e :: es) [] pos) Γ O Q :=
  pe_weak (we_call Fo hr hm hk hb hx h hg hdb he hpl) fun σ H R ⟨hd, kk⟩ => ⟨hd, fun d O' v H' ⟨O3, hp, q⟩ hd' s' r' => by
    obtain ⟨h1, h2⟩ := hd'.perm hp
    exact kk d O3 v H' q h1 (s'.trans h2) (r'.mono (ss h2))⟩
/-- the call changes the i-th cell alone -/
theorem cd1 (i : Nat) {c : Addr × OC} {ds : List D} (hi : O[i]? = some c) (hP : PP ds [c] fun d O' => ∃ c', O' = [c'] ∧ Q d (O.set i c')) : CallD PP ds O fun d O2 => ∃ O3, O2.Perm O3 ∧ Q d O3 :=
  ⟨[c], O.eraseIdx i, _, perm_get hi, hP, fun d O' ⟨c', e, q⟩ => ⟨O.set i c', by subst e; exact perm_set hi, q⟩⟩
theorem cdp0 {ds : List D} (hP : PP ds [] fun d O' => Q d (O' ++ O)) : CallD PP ds O fun d O2 => ∃ O3, O2.Perm O3 ∧ Q d O3 := ⟨[], O, _, List.Perm.refl _, hP, fun d O' h => ⟨_, List.Perm.refl _, h⟩⟩
end
end Dl

/-! ### the model's steps for operators of an own class -/
namespace Dlk
open PySem PySem.Calls PyProof.Rows Builtin PySem.W
section
variable {prog : Program} {w : World} {A : Around} {E : Value → Shared → Prop} {s : Shared} {K : Frag} {x C f : Addr} {ox : Obj} {od : Option Obj}
theorem len_bodyK {Q : Value → Shared → Prop} (X : K.In s.heap) (I : InstAt s.heap x ox C od) (hs : findIn K (.ref C) "__len__" = some (some (.ref f))) (hf : isFn K (.ref f) = true)
    (h : wpAny (model prog w) A (call (.ref f) [.ref x]) (PySem.W.LenBack Q) E s) : wpAny (model prog w) A (Builtin.«len» ⟨[.ref x], []⟩) (fun fin s' => ∃ r, fin = .done (.ret r) ∧ Q r s') E s := by
  unfold Builtin.«len»
  refine wpAny_bind (m := oneArg "len" _) (wpAny_pure ?_)
  refine wpAny_bind (m := callSpecial? (.ref x) (Str.ofString "__len__")) (special_fn X I hs (beq_iff_eq.mp hf) (wpAny_mono h (fun r s' hr => ?_) fun _ _ y => y))
  cases r <;> first | exact hr.elim | skip
  rename_i n u
  obtain ⟨⟨h0, h1⟩, hq⟩ := hr
  refine wpAny_bind (wpAny_holding (wpAny_pure ?_))
  refine wpAny_bind (wpAny_letGo ?_)
  show wpAny _ _ (if n < 0 then _ else _) _ _ _
  rw [if_neg (by omega)]
  show wpAny _ _ (if n ≥ 2 ^ 63 then _ else _) _ _ _
  rw [if_neg (by omega)]
  exact wpAny_bind (wpAny_mkInt (wpAny_pure ⟨_, rfl, hq⟩))
theorem truthy_lenK {Q : Bool → Shared → Prop} (X : K.In s.heap) (I : InstAt s.heap x ox C od) (hb : findIn K (.ref C) "__bool__" = some none) (hs : findIn K (.ref C) "__len__" = some (some (.ref f))) (hf : isFn K (.ref f) = true)
    (h : wpAny (model prog w) A.in1 (call (.ref f) [.ref x]) (PySem.W.LenBack fun v s' => ∃ n t, v = .int n t ∧ Q (n != 0) s') E s) : wpAny (model prog w) A (truthy (.ref x)) Q E s := by
  have key : wpAny (model prog w) A (runValue (.builtin "len" ⟨[.ref x], []⟩)) (fun r s' => ∃ n t, r = .int n t ∧ Q (n != 0) s') E s := by
    refine wpAny_runValue (codeAny_builtin entry_len ?_)
    rw [Around.under_plainId plain_len _]
    exact wpAny_mono (len_bodyK (Q := fun v s' => ∃ n t, v = .int n t ∧ Q (n != 0) s') X I hs hf h) (fun fin s' h' => by obtain ⟨r, rfl, hq⟩ := h'; exact hq) fun _ _ e => e
  have hsp : ∀ {Q' : Option Value → Shared → Prop}, Q' (some (.ref f)) s → wpAny (model prog w) A (specialOf (.ref x) "__len__") Q' E s := fun q => by
    unfold specialOf
    exact wpAny_bind (I.type.here ((looks_findIn X hs).here q))
  unfold truthy
  first
    | refine wpAny_bind (DSub.special_no (name := Str.ofString "__bool__") X I hb ?_)
    | refine wpAny_bind (wpAny_pure (wpAny_bind (DSub.special_no (name := Str.ofString "__bool__") X I hb ?_)))
  first
    | refine wpAny_bind (hsp ?_)
    | refine wpAny_bind (wpAny_pure (wpAny_bind (hsp ?_)))
  first
    | exact wpAny_bind (wpAny_mono key (fun r s' h' => by obtain ⟨n, t, rfl, hq⟩ := h'; exact wpAny_pure hq) fun _ _ e => e)
    | exact wpAny_bind (wpAny_pure (wpAny_bind (wpAny_mono key (fun r s' h' => by obtain ⟨n, t, rfl, hq⟩ := h'; exact wpAny_pure hq) fun _ _ e => e)))
theorem meets_boolK : MeetsIn prog w (Builtin.«bool.__new__» ⟨[.type "bool", .ref x], []⟩) (fun A R s => wpAny (model prog w) A.in1 (truthy (.ref x)) (fun b s' => R (.ok (.ret (.bool b))) s') (fun e s' => R (.error e) s') s) :=
  MeetsIn.of_wp fun A R s hs => by
    obtain ⟨hp, g, d, tk, os⟩ := s
    have f1 := PySem.F.conv_sub_bool
    repeat (any_goals (first | assumption | (with_reducible refine wpAny_bind (m := truthy (.ref x)) (wpAny_mono hs (fun b s' hb => ?_) fun _ _ e => e)) | wp_step))
    all_goals first | exact ⟨_, rfl, hb⟩ | exact ⟨_, rfl, hs⟩ | exact hs | skip
/-- bool(x), x of an own class -/
theorem call_boolK {Q : Value → Shared → Prop} (h : wpAny (model prog w) A.in1.in1 (truthy (.ref x)) (fun b s' => Q (.bool b) s') E s) : wpAny (model prog w) A (call (.type "bool") [.ref x]) Q E s :=
  callType_newIn PySem.F.called_bool PySem.F.newNe_bool (PySem.F.typeCall_bool_1 _) (PySem.F.newCall_bool_1 _) (fun obj => PySem.F.args_object_init_2 obj _) PySem.F.entry_bool_new meets_boolK
    (wpAny_mono h (fun b s' q => ⟨rfl, q⟩) fun _ _ e => e)
/-- x != y by the own __eq__, none of its own __ne__ -/
theorem ne_K {b tb : Value} {Q : Value → Shared → Prop} (hu : A.units + 1 < cLine) (X : K.In s.heap) (I : InstAt s.heap x ox C od) (hb : Looks (model prog w) s.heap (typeOf b) tb) (hn : notFirst K C tb = true)
    (hs : findIn K (.ref C) "__ne__" = some (some (.builtin "object.__ne__"))) (he : findIn K (.ref C) "__eq__" = some (some (.ref f))) (hf : isFn K (.ref f) = true) (ho : subIn K (.ref C) (.type "object") = some true)
    (h : wpAny (model prog w) A.in1 (call (.ref f) [.ref x, b]) (fun v s' => ∃ k, v = .bool k ∧ Q (.bool (!k)) s') E s) : wpAny (model prog w) A (richCompare .NotEq (.ref x) b) Q E s := by
  have inst : Looks (model prog w) s.heap (isInstance (.ref x) (.type "object")) true := I.type.andThen (looks_subIn X ho)
  have body : wpAny (model prog w) A.in1 (Builtin.«object.__ne__» ⟨[.ref x, b], []⟩) (fun fin s' => ∃ k, fin = .done (.ret (.bool (!k))) ∧ Q (.bool (!k)) s') E s := by
    unfold Builtin.«object.__ne__»
    refine wpAny_bind (wpAny_pure ?_)
    refine wpAny_bind (wpAny_cRoomFor (show A.in1.units < cLine from hu) ?_)
    refine wpAny_bind (m := callSpecialIfBound? (.ref x) (Str.ofString "__eq__") [b]) (ifBound_K X I he hf (wpAny_mono h (fun v s' hv => ?_) fun _ _ e => e))
    obtain ⟨k, rfl, q⟩ := hv
    exact wpAny_bind (wpAny_truthy_bool (wpAny_pure ⟨k, rfl, q⟩))
  have run : wpAny (model prog w) A (call (.builtin "object.__ne__") [.ref x, b]) (fun v s' => ∃ k, v = .bool k ∧ Q (.bool k) s') E s := by
    refine wpAny_call (codeAny_call_builtin (by decide +kernel) PySem.F.cmpEntry_ne (@check_slot (model prog w) _ _ _ "object.__ne__" "object" "__ne__" (.ref x) [b] [] _ PySem.F.cmpKind_ne PySem.F.cmpSplit_ne inst (PySem.F.cmpArgs_ne _ _) ?_))
    refine wpAny_mono body (fun fin s' z => ?_) fun _ _ e => e
    obtain ⟨k, rfl, q⟩ := z
    exact ⟨!k, rfl, q⟩
  have one : wpAny (model prog w) A (tryCompare (.ref x) "__ne__" b) (fun r s' => ∃ v, r = some v ∧ Q v s') E s := by
    unfold tryCompare
    refine wpAny_bind ?_
    simp only [callSpecialIfBound?, bindSpecialIfBound?]
    refine wpAny_holding (wpAny_bind (wpAny_bind (wpAny_bind (I.type.here ((looks_findIn X hs).here ?_)))))
    have hbd : bindSpecial (.builtin "object.__ne__") (.ref x) = pure (.builtin "object.__ne__", [.ref x]) :=
      (Slot.of (T := "object") (name := "__ne__") (owner := "object") (n := "__ne__") (by rw [typeLookup_type, builtinLookup_eq_fast]; kernel_rfl) (by decide +kernel) (by decide +kernel) (by decide +kernel) (.inl (by decide +kernel)) (by rw [isSubtype_type]; kernel_rfl)).bind _
    refine wpAny_bind (wpAny_askSetting (wpAny_ite ?_))
    split
    · exact wpAny_bind ((Looks.of_pure hbd).here (wpAny_pure (by
        refine wpAny_bind (wpAny_mono run (fun v s' z => ?_) fun _ _ e => e)
        obtain ⟨k, rfl, q⟩ := z
        exact wpAny_pure (wpAny_pure ⟨_, rfl, q⟩))))
    · exact wpAny_tryCatch (wpAny_bind ((Looks.of_pure hbd).here (wpAny_pure (by
        refine wpAny_bind (wpAny_mono run (fun v s' z => ?_) fun _ _ e => e)
        obtain ⟨k, rfl, q⟩ := z
        exact wpAny_pure (wpAny_pure ⟨_, rfl, q⟩)))))
  unfold richCompare
  simp only [oneThing_ref]
  refine wpAny_holding (wpAny_bind (wpAny_cRoomFor (Nat.lt_of_succ_lt hu) ?_))
  refine wpAny_bind (I.type.here (wpAny_bind (hb.here ?_)))
  split
  · rename_i q
    have e : subIn K tb (.ref C) = some false := by
      rcases Bool.or_eq_true_iff.mp hn with e | e
      · rw [beq_iff_eq.mp e] at q; simp at q
      · exact beq_iff_eq.mp e
    refine wpAny_bind ((looks_subIn X e).here ?_)
    simp only [Bool.false_eq_true, if_false]
    refine wpAny_bind (wpAny_mono one (fun r s' z => ?_) fun _ _ e => e)
    obtain ⟨v, rfl, hq⟩ := z
    exact wpAny_pure hq
  · refine wpAny_bind (wpAny_pure ?_)
    simp only [Bool.false_eq_true, if_false]
    refine wpAny_bind (wpAny_mono one (fun r s' z => ?_) fun _ _ e => e)
    obtain ⟨v, rfl, hq⟩ := z
    exact wpAny_pure hq
end
end Dlk

namespace Dl
open PySem PySem.Spec PyProof.Rows L2

section
variable {X : Cx} {CX : CXT} {pins : List (Addr × Obj)} {σ : L2.St} {H : Hp} {s : Shared} {C g : Addr} {n : Nat} {fd : FuncData} {ps : List Str} {sp : Sp} {E : XK}
theorem fnr (F : FnOk X.prog X.w X.K X.mg X.base CX n g fd ps sp) (hb : Binds X.K fd ps []) : FnR X.prog X.w X.K X.mg X.base CX n g sp := fun A outer s H us vs Q E hr e0 r h =>
  F.raw hb (ds := []) (dvs := []) .nil A outer s H us vs Q E hr e0 r (show sp (vs ++ []) H Q E from by rw [List.append_nil]; exact h)
/-- the class of a value, as the model asks it -/
theorem looks_ty {M : Model} {x : V} {u t : Value} (I : Inv X pins σ H s) (rx : RelV x u) (ty : TyX X.K H x t) : PySem.W.Looks M s.heap (typeOf u) t := by
  have at_ : ∀ {a : Addr} {o : Obj} {c : Value}, s.heap.get? a = some o → o.cls = c → PySem.W.Looks M s.heap (typeOf (.ref a)) c := fun ho hc => (PySem.W.Looks.ld ho).andThen (by rw [hc]; exact .now)
  cases ty with
  | base b =>
    cases b with
    | non => cases (show u = Value.none from rx); exact .of_pure rfl
    | bl y => cases (show u = Value.bool y from rx); exact .of_pure rfl
    | int i => obtain ⟨t, q⟩ := (show ∃ t, u = Value.int i t from rx); cases q; exact .of_pure rfl
    | str y => obtain ⟨t, q⟩ := (show ∃ t, u = Value.str y t from rx); cases q; exact .of_pure rfl
    | flt y => obtain ⟨t, q⟩ := (show ∃ t, u = Value.float y t from rx); cases q; exact .of_pure rfl
    | @lst a xs ea =>
      cases (show u = Value.ref a from rx)
      obtain ⟨_, _, n, _, h1⟩ := (show ObjOk X.prog X.w H s.heap a (.lst xs) from I.hok a _ ea)
      exact at_ h1 rfl
    | @frz a ob xs ea =>
      cases (show u = Value.ref a from rx)
      obtain ⟨_, _, _, n, _, h1⟩ := (show ObjOk X.prog X.w H s.heap a (.frz ob (.lst xs)) from I.hok a _ ea)
      exact at_ h1 rfl
    | @tup a xs ea =>
      cases (show u = Value.ref a from rx)
      obtain ⟨_, _, _, o, h1, h2, _⟩ := (show ObjOk X.prog X.w H s.heap a (.tup xs) from I.hok a _ ea)
      exact at_ h1 h2
    | @dK a kvs ea =>
      cases (show u = Value.ref a from rx)
      obtain ⟨_, _, vs, _, o, es, ep, h1, h2, _⟩ := (show ObjOk X.prog X.w H s.heap a (.dK kvs) from I.hok a _ ea)
      exact at_ h1 h2.1
    | @dT a kvs ea =>
      cases (show u = Value.ref a from rx)
      obtain ⟨_, _, xs, _, o, es, ep, h1, h2, _⟩ := (show ObjOk X.prog X.w H s.heap a (.dT kvs) from I.hok a _ ea)
      exact at_ h1 h2.1
    | @ins a C dx fs ea cl ha hn htk hm =>
      cases (show u = Value.ref a from rx)
      obtain ⟨mA, O, _⟩ := ins_get I.hok ea
      obtain ⟨od, J, _⟩ := O.look
      exact J.type
  | byt y => obtain ⟨t, q⟩ := (show ∃ t, u = Value.bytes y t from rx); cases q; exact .of_pure rfl
  | @set a S n ea =>
    cases (show u = Value.ref a from rx)
    obtain ⟨o, _, _, _, e, ex, _⟩ := I.hok a _ ea
    exact at_ e ex.1
  | @kList a o e c =>
    cases (show u = Value.ref a from rx)
    exact at_ (I.kIn a o e) c
  | @kTuple a o e c =>
    cases (show u = Value.ref a from rx)
    exact at_ (I.kIn a o e) c
  | @kDict a o e c =>
    cases (show u = Value.ref a from rx)
    exact at_ (I.kIn a o e) c
  | @fTuple a ob xs ea =>
    cases (show u = Value.ref a from rx)
    obtain ⟨_, _, _, _, o, h1, h2, _⟩ := (show ObjOk X.prog X.w H s.heap a (.frz ob (.tup xs)) from I.hok a _ ea)
    exact at_ h1 h2
  | @fDict a ob kvs ea =>
    cases (show u = Value.ref a from rx)
    obtain ⟨_, _, _, vs, _, o, es, ep, h1, h2, _⟩ := (show ObjOk X.prog X.w H s.heap a (.frz ob (.dK kvs)) from I.hok a _ ea)
    exact at_ h1 h2.1
/-- an instance of C stands there -/
def IsI (H : Hp) (x : V) (C : Addr) : Prop := ∃ a dx fs, x = .ref a ∧ H a = some (.ins C dx fs)
theorem IsI.inst {x : V} {u : Value} (I : Inv X pins σ H s) (rx : RelV x u) (h : IsI H x C) : ∃ a ox od, u = .ref a ∧ x = .ref a ∧ PySem.W.InstAt s.heap a ox C od := by
  obtain ⟨a, dx, fs, rfl, ea⟩ := h
  cases (show u = Value.ref a from rx)
  obtain ⟨mA, O, _⟩ := ins_get I.hok ea
  obtain ⟨od, J, _⟩ := O.look
  exact ⟨a, _, _, rfl, rfl, J⟩
/-- what the class at C (or one above it) has under the name: a plain def -/
structure OwnM (K : PySem.W.Frag) (C : Addr) (m : Str) (g : Addr) : Prop where
  at_ : PySem.W.findIn K (.ref C) m = some (some (.ref g))
  fn : PySem.W.isFn K (.ref g) = true
  fi : PySem.W.fnIn K g = true

def rOEq (X : Cx) (C : Addr) (sp : Sp) (E : XK) : R2 := fun x y H Q => IsI H x C ∧ (∃ tb, TyX X.K H y tb ∧ PySem.W.notFirst X.K C tb = true) ∧ sp [x, y] H Q E
theorem op_eqO (m : OwnM X.K C "__eq__" g) (F : FnR X.prog X.w X.K X.mg X.base CX n g sp) (hr : Room n X.A) (hx : Passes CX X E) : OpR X (compareOp .Eq) (rOEq X C sp E) := by
  intro pins s σ H x y v u Q I rx ry h
  obtain ⟨hi, ⟨tb, hty, hn⟩, q⟩ := h
  obtain ⟨a, ox, od, rfl, rfl, J⟩ := hi.inst I rx
  obtain ⟨mm, hF⟩ := I.fr
  show wpAny _ _ (richCompare .Eq _ _) _ _ _
  refine PySem.W.cmp_K (op := .Eq) hr.units0 hF I.ok.mod.kin J (looks_ty I ry hty) hn m.at_ m.fn ?_
  refine wpAny_mono (wpAny_call (run_fnR (us := [.ref a, u]) (vs := [.ref a, y]) F hr hx I (.cons rfl (.cons ry .nil)) q)) (fun w s' z => ?_) fun _ _ x => x
  obtain ⟨z', H', I', rz, qz⟩ := z
  exact SlX.cmpback rz ⟨z', H', I', rz, qz⟩
def rONe (X : Cx) (C : Addr) (sp : Sp) (E : XK) : R2 := fun x y H Q => IsI H x C ∧ (∃ tb, TyX X.K H y tb ∧ PySem.W.notFirst X.K C tb = true) ∧ sp [x, y] H (fun v H' => ∃ k, v = .bl k ∧ Q (.bl (!k)) H') E
theorem op_neO (m : OwnM X.K C "__eq__" g) (hs : PySem.W.findIn X.K (.ref C) "__ne__" = some (some (.builtin "object.__ne__"))) (ho : PySem.W.subIn X.K (.ref C) (.type "object") = some true) (F : FnR X.prog X.w X.K X.mg X.base CX n g sp)
    (hr : Room (n + 1) X.A) (hx : Passes CX X E) : OpR X (compareOp .NotEq) (rONe X C sp E) := by
  intro pins s σ H x y v u Q I rx ry h
  obtain ⟨hi, ⟨tb, hty, hn⟩, q⟩ := h
  obtain ⟨a, ox, od, rfl, rfl, J⟩ := hi.inst I rx
  show wpAny _ _ (richCompare .NotEq _ _) _ _ _
  refine Dlk.ne_K (hu_of hr) I.kIn J (looks_ty I ry hty) hn hs m.at_ m.fn ho ?_
  refine wpAny_mono (wpAny_call (SlX.run_at (us := [.ref a, u]) (ws := [.ref a, y]) F hr.in1 I.env0.in1 hx I (.cons rfl (.cons ry .nil)) q)) (fun w s' z => ?_) fun _ _ x => x
  obtain ⟨z', H', I', rz, k, rfl, qz⟩ := z
  cases (show w = Value.bool k from rz)
  exact ⟨k, rfl, .bl (!k), H', I', rfl, qz⟩
def rOIn (neg : Bool) (C : Addr) (sp : Sp) (E : XK) : R2 := fun x y H Q => IsI H y C ∧ sp [y, x] H (fun v H' => ∃ k, v = .bl k ∧ Q (.bl (k != neg)) H') E
theorem op_inO (m : OwnM X.K C "__contains__" g) (F : FnR X.prog X.w X.K X.mg X.base CX n g sp) (hr : Room n X.A) (hx : Passes CX X E) : OpR X (compareOp .In) (rOIn false C sp E) := by
  intro pins s σ H x y v u Q I rx ry h
  obtain ⟨hi, q⟩ := h
  obtain ⟨a, ox, od, rfl, rfl, J⟩ := hi.inst I ry
  obtain ⟨mm, hF⟩ := I.fr
  refine PySem.W.in_K hF I.ok.mod.kin J m.at_ m.fn ?_
  refine wpAny_mono (wpAny_call (run_fnR (us := [.ref a, v]) (vs := [.ref a, x]) F hr hx I (.cons rfl (.cons rx .nil)) q)) (fun w s' z => ?_) fun _ _ x => x
  obtain ⟨z', H', I', rz, k, rfl, qz⟩ := z
  cases (show w = Value.bool k from rz)
  rw [show (k != false) = k from by cases k <;> rfl] at qz
  exact wpAny_truthy_bool ⟨.bl k, H', I', rfl, qz⟩
theorem op_ninO (m : OwnM X.K C "__contains__" g) (F : FnR X.prog X.w X.K X.mg X.base CX n g sp) (hr : Room n X.A) (hx : Passes CX X E) : OpR X (compareOp .NotIn) (rOIn true C sp E) := by
  intro pins s σ H x y v u Q I rx ry h
  obtain ⟨hi, q⟩ := h
  obtain ⟨a, ox, od, rfl, rfl, J⟩ := hi.inst I ry
  obtain ⟨mm, hF⟩ := I.fr
  refine PySem.W.notIn_K hF I.ok.mod.kin J m.at_ m.fn ?_
  refine wpAny_mono (wpAny_call (run_fnR (us := [.ref a, v]) (vs := [.ref a, x]) F hr hx I (.cons rfl (.cons rx .nil)) q)) (fun w s' z => ?_) fun _ _ x => x
  obtain ⟨z', H', I', rz, k, rfl, qz⟩ := z
  cases (show w = Value.bool k from rz)
  rw [show (k != true) = !k from by cases k <;> rfl] at qz
  exact wpAny_truthy_bool ⟨.bl (!k), H', I', rfl, qz⟩
def rO2 (C : Addr) (sp : Sp) (E : XK) : R2 := fun x y H Q => IsI H x C ∧ sp [x, y] H Q E
/-- x[y] -/
theorem pe_ixO {a b : Expr} {ta tb : TE} {pos : Pos} (m : OwnM X.K C "__getitem__" g) (F : FnR X.prog X.w X.K X.mg X.base CX n g sp) (hr : Room (n + 1) X.A) (hx : Passes CX X E) (ha : PE X a ta) (hb : PE X b tb)
    (hs : ∀ v u : Value, subscripted b true v u = runValue (.builtin "lifetime.subscript" ⟨[v, u], []⟩)) : PE X (.Subscript a b pos) (tOp (rO2 C sp E) ta tb) := by
  refine ⟨fun pins s σ H Q I h => ?_⟩
  refine Subscript_ (binT ha hb I h fun v u s2 x y H2 I2 rx ry q => ?_)
  obtain ⟨hi, q⟩ := q
  obtain ⟨a', ox, od, rfl, rfl, J⟩ := hi.inst I2 rx
  obtain ⟨mm, hF⟩ := I2.fr
  exact PySem.W.sub_K hF I2.ok.mod.kin J m.at_ m.fi m.fn (wpAny_call (SlX.run_at (us := [.ref a', u]) (ws := [.ref a', y]) F hr.in1 I2.env0.in1 hx I2 (.cons rfl (.cons ry .nil)) q)) (hs _ _)
/-- x op y, both of the class -/
def rO2C (X : Cx) (C : Addr) (sp : Sp) (E : XK) : R2 := fun x y H Q => IsI H x C ∧ TyX X.K H y (.ref C) ∧ sp [x, y] H Q E
theorem op_binC {op : Operator} (hc : PySem.W.selfFirst X.K C = true) (m : OwnM X.K C (PySem.dunder op.info.2) g) (F : FnR X.prog X.w X.K X.mg X.base CX n g sp) (hr : Room n X.A) (hx : Passes CX X E) : OpR X (binaryOp op) (rO2C X C sp E) := by
  intro pins s σ H x y v u Q I rx ry h
  obtain ⟨hi, hty, q⟩ := h
  obtain ⟨a, ox, od, rfl, rfl, J⟩ := hi.inst I rx
  obtain ⟨mm, hF⟩ := I.fr
  refine PySem.W.binop_K hF I.ok.mod.kin J (looks_ty I ry hty) hc m.at_ m.fn ?_
  refine wpAny_mono (wpAny_call (run_fnR (us := [.ref a, u]) (vs := [.ref a, y]) F hr hx I (.cons rfl (.cons ry .nil)) q)) (fun w s' z => ?_) fun _ _ x => x
  obtain ⟨z', H', I', rz, qz⟩ := z
  exact SlX.cmpback rz ⟨z', H', I', rz, qz⟩
/-- what is asked of the table where the right side is of a built-in type T -/
structure BinT (K : PySem.W.Frag) (C : Addr) (op : Operator) (T : String) : Prop where
  self : PySem.W.selfFirst K C = true
  refl : ∃ rc, PySem.W.findIn K (.ref C) (dunderR op.info.2) = some rc ∧ (rc = none ∨ ∃ g : Addr, rc = some (.ref g))
  fo : ∃ fo, PySem.W.findIn K (.type T) (PySem.dunder op.info.2) = some fo
  ro : ∃ ro, PySem.W.findIn K (.type T) (dunderR op.info.2) = some ro
  sub : PySem.W.subIn K (.type T) (.ref C) = some false
def PTy (y : V) (T : String) : Prop := ∀ u, RelV y u → typeOf u = pure (.type T)
theorem PTy.int {i : Int} : PTy (.int i) "int" := fun u r => by obtain ⟨t, rfl⟩ := r; rfl
theorem PTy.str {l : Str} : PTy (.str l) "str" := fun u r => by obtain ⟨t, rfl⟩ := r; rfl
theorem PTy.bl {k : Bool} : PTy (.bl k) "bool" := fun u r => by cases (show u = Value.bool k from r); rfl
theorem PTy.non : PTy .non "NoneType" := fun u r => by cases (show u = Value.none from r); rfl
def rO2T (T : String) (C : Addr) (sp : Sp) (E : XK) : R2 := fun x y H Q => IsI H x C ∧ PTy y T ∧ sp [x, y] H Q E
theorem op_binT {op : Operator} {T : String} (t : BinT X.K C op T) (m : OwnM X.K C (PySem.dunder op.info.2) g) (F : FnR X.prog X.w X.K X.mg X.base CX n g sp) (hr : Room n X.A) (hx : Passes CX X E) : OpR X (binaryOp op) (rO2T T C sp E) := by
  intro pins s σ H x y v u Q I rx ry h
  obtain ⟨hi, hty, q⟩ := h
  obtain ⟨a, ox, od, rfl, rfl, J⟩ := hi.inst I rx
  obtain ⟨mm, hF⟩ := I.fr
  obtain ⟨rc, t1, t2⟩ := t.refl
  obtain ⟨fo, t3⟩ := t.fo
  obtain ⟨ro, t4⟩ := t.ro
  refine PySem.W.ksp_binT hF I.ok.mod.kin J (hty u ry) t.self m.at_ m.fn t1 t2 t3 t4 t.sub ?_
  refine wpAny_mono (wpAny_call (run_fnR (us := [.ref a, u]) (vs := [.ref a, y]) F hr hx I (.cons rfl (.cons ry .nil)) q)) (fun w s' z => ?_) fun _ _ x => x
  obtain ⟨z', H', I', rz, qz⟩ := z
  exact SlX.cmpback rz ⟨z', H', I', rz, qz⟩
theorem un_negO (m : OwnM X.K C "__neg__" g) (F : FnR X.prog X.w X.K X.mg X.base CX n g sp) (hr : Room n X.A) (hx : Passes CX X E) : UnR X (unaryOp .USub) (fun x H Q => IsI H x C ∧ sp [x] H Q E) := by
  intro pins s σ H x v Q I rx h
  obtain ⟨hi, q⟩ := h
  obtain ⟨a, ox, od, rfl, rfl, J⟩ := hi.inst I rx
  obtain ⟨mm, hF⟩ := I.fr
  exact PySem.W.ksp_neg hF I.ok.mod.kin J m.at_ m.fn (wpAny_call (run_fnR (us := [.ref a]) (vs := [.ref a]) F hr hx I (.cons rfl .nil) q))
theorem call_lenO (m : OwnM X.K C "__len__" g) (F : FnR X.prog X.w X.K X.mg X.base CX n g sp) (hr : Room (n + 1) X.A) (hx : Passes CX X E) :
    CallR X (.builtin "len") (fun xs H Q => ∃ x, xs = [x] ∧ IsI H x C ∧ sp [x] H (fun v H' => ∃ i, v = .int i ∧ (0 ≤ i ∧ i < 2 ^ 63) ∧ Q (.int i) H') E) := by
  intro pins s σ H xs us Q I r h
  obtain ⟨x, rfl, hi, q⟩ := h
  obtain ⟨u, rfl, ru⟩ := r.one
  obtain ⟨a, ox, od, rfl, rfl, J⟩ := hi.inst I ru
  obtain ⟨mm, hF⟩ := I.fr
  refine PySem.W.len_K hF I.ok.mod.kin J m.at_ m.fn ?_
  refine wpAny_mono (wpAny_call (SlX.run_at (us := [.ref a]) (ws := [.ref a]) F hr.in1 I.env0.in1 hx I (.cons rfl .nil) q)) (fun w s' z => ?_) fun _ _ x => x
  obtain ⟨z', H', I', rz, i, rfl, hi2, qz⟩ := z
  obtain ⟨t, rfl⟩ := (show ∃ t, w = Value.int i t from rz)
  exact ⟨hi2, .int i, H', I'.tok _, ⟨_, rfl⟩, qz⟩
theorem call_boolO (m : OwnM X.K C "__len__" g) (hb : PySem.W.findIn X.K (.ref C) "__bool__" = some none) (F : FnR X.prog X.w X.K X.mg X.base CX n g sp) (hr : Room (n + 3) X.A) (hx : Passes CX X E) :
    CallR X (.type "bool") (fun xs H Q => ∃ x, xs = [x] ∧ IsI H x C ∧ sp [x] H (fun v H' => ∃ i, v = .int i ∧ (0 ≤ i ∧ i < 2 ^ 63) ∧ Q (.bl (i != 0)) H') E) := by
  intro pins s σ H xs us Q I r h
  obtain ⟨x, rfl, hi, q⟩ := h
  obtain ⟨u, rfl, ru⟩ := r.one
  obtain ⟨a, ox, od, rfl, rfl, J⟩ := hi.inst I ru
  have hr2 : Room n X.A.in1.in1.in1 := (show Room (n + 1) X.A.in1.in1 from (show Room (n + 2) X.A.in1 from Room.in1 hr).in1).in1
  refine Dlk.call_boolK (Dlk.truthy_lenK I.kIn J hb m.at_ m.fn ?_)
  refine wpAny_mono (wpAny_call (SlX.run_at (us := [.ref a]) (ws := [.ref a]) F hr2 I.env0.in1.in1.in1 hx I (.cons rfl .nil) q)) (fun w s' z => ?_) fun _ _ x => x
  obtain ⟨z', H', I', rz, i, rfl, hi2, qz⟩ := z
  obtain ⟨t, rfl⟩ := (show ∃ t, w = Value.int i t from rz)
  exact ⟨hi2, i, _, rfl, .bl (i != 0), H', I'.tok _, rfl, qz⟩
end
end Dl

namespace Dl
open PySem PySem.Spec PyProof.Rows L2

/-! ### fields -/
section
variable {K : PySem.W.Frag} {H : Hp} {f : Str}
theorem RepF.look : ∀ {fs : List (Str × V)} {gs : List (Str × D)}, RepF K H fs gs → ∀ {d : D}, gs.lookup f = some d → ∃ v, fs.lookup f = some v ∧ Rep K H v d
  | _, _, .nil, d, h => by simp at h
  | _, _, .cons (x := x) (v := v) (vs := vs) (d := d') (ds := ds) r rs, d, h => by
    unfold List.lookup at h ⊢
    cases q : (f == x) with
    | true =>
      rw [q] at h
      cases h
      exact ⟨v, rfl, r⟩
    | false =>
      rw [q] at h
      exact RepF.look rs h
theorem RepF.lookN : ∀ {fs : List (Str × V)} {gs : List (Str × D)}, RepF K H fs gs → gs.lookup f = none → fs.lookup f = none
  | _, _, .nil, h => rfl
  | _, _, .cons (x := x) (v := v) (vs := vs) (d := d') (ds := ds) r rs, h => by
    unfold List.lookup at h ⊢
    cases q : (f == x) with
    | true => rw [q] at h; cases h
    | false =>
      rw [q] at h
      exact RepF.lookN rs h
def putD (f : Str) (v : D) : List (Str × D) → List (Str × D)
  | [] => [(f, v)]
  | (g, x) :: r => if g = f then (g, v) :: r else (g, x) :: putD f v r
theorem RepF.put {v : V} {d : D} (rv : Rep K H v d) : ∀ {fs : List (Str × V)} {gs : List (Str × D)}, RepF K H fs gs → RepF K H (putF f v fs) (putD f d gs)
  | _, _, .nil => .cons rv .nil
  | _, _, .cons (x := x) (v := v') (vs := vs) (d := d') (ds := ds) r rs => by
    unfold putF putD
    by_cases q : x = f
    · rw [if_pos q, if_pos q]
      exact .cons rv rs
    · rw [if_neg q, if_neg q]
      exact .cons r (RepF.put rv rs)
theorem RepF.length : ∀ {fs : List (Str × V)} {gs : List (Str × D)}, RepF K H fs gs → fs.length = gs.length
  | _, _, .nil => rfl
  | _, _, .cons r rs => congrArg (· + 1) (RepF.length rs)
theorem look_here {d : D} {r : List (Str × D)} : ((f, d) :: r).lookup f = some d := by simp [List.lookup]
theorem look_next {g : Str} {d : D} {r : List (Str × D)} {o : Option D} (hn : (f == g) = false) (h : r.lookup f = o) : ((g, d) :: r).lookup f = o := by
  unfold List.lookup
  rw [hn]
  exact h
theorem put_here {d d' : D} {r : List (Str × D)} : putD f d ((f, d') :: r) = (f, d) :: r := by unfold putD; rw [if_pos rfl]
theorem put_next {g : Str} {d d' : D} {r r' : List (Str × D)} (hn : (f == g) = false) (h : putD f d r = r') : putD f d ((g, d') :: r) = (g, d') :: r' := by
  unfold putD
  rw [if_neg (fun e => by subst e; simp at hn), h]
theorem put_nil {d : D} : putD f d [] = [(f, d)] := rfl
end

section
variable {X : Cx} {F : Fx} {Γ : Ga} {O : Ow} {Q : QD} {x : D} {C : Addr} {gs : List (Str × D)} {f : Str}
/-- an instance at hand: not changed any more, or owned -/
def InsD (x : D) (O : Ow) (C : Addr) (gs : List (Str × D)) : Prop := x = .ins C gs ∨ ∃ p, x = .at p ∧ (p, OC.ins C gs) ∈ O
theorem InsD.self : InsD (.ins C gs) O C gs := .inl rfl
theorem InsD.own {p : Addr} {k : Nat} (h : O[k]? = some (p, .ins C gs)) : InsD (.at p) O C gs := .inr ⟨p, rfl, mem_of_get h⟩
theorem InsD.here {p : Addr} : InsD (.at p) ((p, .ins C gs) :: O) C gs := .inr ⟨p, rfl, List.mem_cons_self ..⟩
theorem InsD.get {K : PySem.W.Frag} {H : Hp} {v : V} (h : InsD x O C gs) (os : OwsOk K F O H) (r : Rep K (stb F O H) v x) : ∃ a dx fs, v = .ref a ∧ H a = some (.ins C dx fs) ∧ RepF K (stb F O H) fs gs := by
  rcases h with rfl | ⟨p, rfl, h⟩
  · cases r with
    | ins h1 h2 => exact ⟨_, _, _, rfl, stb_same _ _ h1, h2⟩
  · cases r
    obtain ⟨dx, fs, h1, h2⟩ := os.ow p _ h
    exact ⟨_, _, _, rfl, h1, h2⟩
theorem InsD.is {K : PySem.W.Frag} {H : Hp} {v : V} (h : InsD x O C gs) (os : OwsOk K F O H) (r : Rep K (stb F O H) v x) : IsI H v C := by
  obtain ⟨a, dx, fs, e, h1, _⟩ := h.get os r
  exact ⟨a, dx, fs, e, h1⟩
variable {e o : Expr} {pos tpos apos p p2 : Pos}
/-- e.f -/
theorem we_fld (c : Cls X.K C) (n : NoAttr X.K C f) (h : WE X F e Γ O fun x O1 => ∃ gs d, InsD x O1 C gs ∧ gs.lookup f = some d ∧ Q d O1) (hb : attributeBase e f X.env (eval e X.env) = eval e X.env := by rfl) : WE X F (.Attribute e f pos) Γ O Q :=
  we_of (pe_fld h hb) fun σ H R hd k => ⟨hd, fun x O1 v H1 ⟨gs, d, hi, hl, q⟩ hd1 s1 r1 => by
    obtain ⟨a, dx, fs, ev, h1, h2⟩ := hi.get hd1.os r1
    obtain ⟨u, h3, h4⟩ := h2.look hl
    exact ⟨a, C, dx, fs, u, ev, h1, c, n, h3, k d O1 u H1 q hd1 s1 h4⟩⟩
/-- o.f = e, o owned -/
theorem ws_fld {Q : Out} (c : Cls X.K C) (n : NoAttr X.K C f) (h : WE X F e Γ O fun d O1 => WE X F o Γ O1 fun x O2 => ∃ p k gs, x = .at p ∧ O2[k]? = some (p, .ins C gs) ∧ gs.length < 1000 ∧ Q.nx Γ (O2.set k (p, .ins C (putD f d gs))))
    (hs : swapsWith e (some (.Attribute o f tpos)) pos.line X.env = pure false := by rfl) : WS X F (.Assign [.Attribute o f tpos] e pos) Γ O Q :=
  ps_weak (ps_fld (pe_any (e := o)) h hs) fun E σ H ⟨hd, w⟩ => ⟨hd, fun d O1 v H1 q1 hd1 s1 r1 => we_run q1 hd1 fun x O2 u H2 ⟨p, k, gs, ex, hk, hl, q⟩ hd2 s2 r2 => by
    subst ex
    cases r2
    obtain ⟨dx, fs, g1, g2⟩ := hd2.os.ow p _ (mem_of_get hk)
    obtain ⟨h3, h4⟩ := hd2.set (c' := .ins C (putD f d gs)) hk (o := .ins C dx (putF f v fs)) ⟨dx, _, upd_same, g2.put (r1.mono (ss s2))⟩
    exact ⟨p, C, dx, fs, rfl, g1, c, n, by rw [g2.length]; exact hl, w.nx _ _ _ _ q h3 (s1.trans (s2.trans h4))⟩⟩

/-! ### methods, properties -/
variable {CX : CXT} {k : Nat} {g : Addr} {fd : FuncData} {ps : List Str} {PP : PD} {E : XK} {es : List Expr} {m : Str} {xc : Str}
/-- the cells behind, in any order -/
abbrev CallP (PP : PD) (ds : List D) (O : Ow) (Q : QD) : Prop := CallD PP ds O fun d O2 => ∃ O3, O2.Perm O3 ∧ Q d O3
theorem callp_run {O1 : Ow} {σ : L2.St} {H : Hp} {vs : List V} {ds : List D} {R : VK} (hd : Hd X.K F Γ O1 σ H) (r : Reps X.K (stb F O1 H) vs ds) (hc : CallP PP ds O1 Q)
    (k : ∀ d O' v H', Q d O' → Hd X.K F Γ O' σ H' → Same (hide (ads O1) H) (hide (ads O') H') → Rep X.K (stb F O' H') v d → R v H') : spD X.K PP vs H R E := by
  obtain ⟨Os, Or, Q', hp, hP, hQ⟩ := hc
  refine call_run (Q := fun d O2 => ∃ O3, O2.Perm O3 ∧ Q d O3) hd r hp hP hQ fun d O' v H' ⟨O3, hp3, q⟩ hd' s' r' => ?_
  obtain ⟨h1, h2⟩ := hd'.perm hp3
  exact k d O3 v H' q h1 (s'.trans h2) (r'.mono (ss h2))
theorem we_meth {pl : Sem Bool} (c : Cls X.K C) (hm : Meth X.K C m g) (Fo : FnOk X.prog X.w X.K X.mg X.base CX k g fd ps (spD X.K PP)) (hr : Room k X.A) (hb : Binds X.K fd ps []) (hx : Passes CX X E)
    (h : WE X F o Γ O fun x O1 => (∃ gs, InsD x O1 C gs ∧ gs.lookup m = none) ∧ WA X F (e :: es) Γ O1 fun ds O2 => CallP PP (x :: ds) O2 Q)
    (hst : starEach (e :: es) X.env = (false, eval e X.env) :: starEach es X.env := by rfl) (hpl : (backTo pos (starEach es X.env)).any (·.1) = false := by rfl)
    (ht : eval (.Call (.Attribute o m apos) (e :: es) [] pos) X.env = (do
      let ov ← eval o X.env
      standAt apos.atName
      let (f, first) ← holding [ov] (getMethod ov m pl)
      callWith pos f first (backTo pos (starEach (e :: es) X.env)) (backToKw pos (keywordEach [] X.env))) := by rfl) : WE X F (.Call (.Attribute o m apos) (e :: es) [] pos) Γ O Q :=
  we_of (pe_meth (pl := pl) h c hm Fo hr hb .nil hx (pa_any (es := e :: es)) hst hpl ht) fun σ H R hd kk => ⟨hd, fun x O1 v H1 ⟨⟨gs, hi, hl⟩, q1⟩ hd1 s1 r1 => by
    obtain ⟨a, dx, fs, ev, h1, h2⟩ := hi.get hd1.os r1
    refine ⟨a, dx, fs, ev, h1, h2.lookN hl, wa_run q1 hd1 fun ds O2 vs H2 q2 hd2 s2 r2 => ?_⟩
    rw [List.append_nil]
    exact callp_run hd2 (.cons (r1.mono (ss s2)) r2) q2 fun d O' w H' q hd' s' r' => kk d O' w H' q hd' (s1.trans (s2.trans s')) r'⟩
theorem we_meth0 {pl : Sem Bool} (c : Cls X.K C) (hm : Meth X.K C m g) (Fo : FnOk X.prog X.w X.K X.mg X.base CX k g fd ps (spD X.K PP)) (hr : Room k X.A) (hb : Binds X.K fd ps []) (hx : Passes CX X E)
    (h : WE X F o Γ O fun x O1 => (∃ gs, InsD x O1 C gs ∧ gs.lookup m = none) ∧ CallP PP [x] O1 Q)
    (ht : eval (.Call (.Attribute o m apos) [] [] pos) X.env = (do
      let ov ← eval o X.env
      standAt apos.atName
      let (f, first) ← holding [ov] (getMethod ov m pl)
      callWith pos f first (backTo pos (starEach [] X.env)) (backToKw pos (keywordEach [] X.env))) := by rfl) : WE X F (.Call (.Attribute o m apos) [] [] pos) Γ O Q :=
  we_of (pe_meth0 (pl := pl) h c hm Fo hr hb .nil hx ht) fun σ H R hd kk => ⟨hd, fun x O1 v H1 ⟨⟨gs, hi, hl⟩, q1⟩ hd1 s1 r1 => by
    obtain ⟨a, dx, fs, ev, h1, h2⟩ := hi.get hd1.os r1
    refine ⟨a, dx, fs, ev, h1, h2.lookN hl, ?_⟩
    show spD X.K PP [v] H1 R E
    exact callp_run hd1 (.cons r1 .nil) q1 fun d O' w H' q hd' s' r' => kk d O' w H' q hd' (s1.trans s') r'⟩
/-- e.f, a property -/
theorem we_prop {q : Addr} (c : Cls X.K C) (hp : PropOf X.K C f q g) (Fo : FnOk X.prog X.w X.K X.mg X.base CX k g fd ps (spD X.K PP)) (hr : Room (k + 1) X.A) (hb : Binds X.K fd ps []) (hx : Passes CX X.nox E)
    (h : WE X F e Γ O fun x O1 => (∃ gs, InsD x O1 C gs) ∧ CallP PP [x] O1 Q) (hab : attributeBase e f X.env (eval e X.env) = eval e X.env := by rfl) : WE X F (.Attribute e f pos) Γ O Q :=
  we_of (pe_prop h c hp Fo hr hb .nil hx hab) fun σ H R hd kk => ⟨hd, fun x O1 v H1 ⟨⟨gs, hi⟩, q1⟩ hd1 s1 r1 => by
    obtain ⟨a, dx, fs, ev, h1, h2⟩ := hi.get hd1.os r1
    subst ev
    exact ⟨a, dx, fs, rfl, h1, callp_run hd1 (.cons r1 .nil) q1 fun d O' w H' q hd' s' r' => kk d O' w H' q hd' (s1.trans s') r'⟩⟩

/-! ### a new instance -/
/-- what a cell that is no longer owned leaves -/
theorem Hd.drop {K : PySem.W.Frag} {σ : L2.St} {H : Hp} {p : Addr} {c : OC} (hd : Hd K F Γ ((p, c) :: O) σ H) : Hd K F Γ O σ H ∧ Same (hide (ads ((p, c) :: O)) H) (hide (ads O) H) ∧ p ∉ F.Z ∧ p ∉ ads O := by
  have nd := List.nodup_cons.mp hd.os.nd
  have s : Same (hide (ads ((p, c) :: O)) H) (hide (ads O) H) := fun a o h => by
    obtain ⟨q1, q2⟩ := hide_some h
    exact hide_of (fun z => q1 (List.mem_cons_of_mem _ z)) q2
  have pz : p ∉ F.Z := fun z => by
    obtain ⟨q1, o, q2⟩ := hd.zf p z
    exact (hide_some (hd.fr p o (hide_of q1 q2))).1 (List.mem_cons_self ..)
  exact ⟨⟨hd.len, SlOk.mono (ss s) hd.sl, ⟨nd.2, fun a c' m => (hd.os.ow a c' (List.mem_cons_of_mem _ m)).mono (ss s) rfl⟩, hd.fr.trans s, hd.zf⟩, s, pz, nd.1⟩
/-- behind __init__: as a value, or owned -/
def NewI (C : Addr) (a : Addr) (Q : QD) : QD := fun d O2 => d = .non ∧ ∃ gs O3, O2.Perm ((a, .ins C gs) :: O3) ∧ (Q (.ins C gs) O3 ∨ Q (.at a) ((a, .ins C gs) :: O3))
theorem made_run {σ : L2.St} {H : Hp} {vs : List V} {ds : List D} {R : VK} {a dx : Addr} (hd : Hd X.K F Γ O σ H) (r : Reps X.K (stb F O H) vs ds) (ha : H a = none) (hdx : H dx = none) (hne : dx ≠ a)
    (h : a ∉ ads O → CallD PP (.at a :: ds) ((a, .ins C []) :: O) (NewI C a Q))
    (kk : ∀ d O' v H', Q d O' → Hd X.K F Γ O' σ H' → Same (hide (ads O) H) (hide (ads O') H') → Rep X.K (stb F O' H') v d → R v H') :
    spD X.K PP (.ref a :: vs) (upd (upd H dx (.own a)) a (.ins C dx [])) (fun v H2 => v = .non ∧ R (.ref a) H2) E := by
  have hd1 := hd.new (o := .own a) hdx
  have ha1 : upd H dx (.own a) a = none := by rw [upd_ne (Ne.symm hne)]; exact ha
  have hd2 : Hd X.K F Γ ((a, .ins C []) :: O) σ (upd (upd H dx (.own a)) a (.ins C dx [])) := hd1.newO ha1 ⟨dx, [], upd_same, .nil⟩
  have s1 : Same (hide (ads O) H) (hide (ads ((a, OC.ins C []) :: O)) (upd (upd H dx (.own a)) a (.ins C dx []))) := (same_hide_new hdx).trans (same_hide_cons ha1)
  obtain ⟨Os, Or, Q', hp, hP, hQ⟩ := h (hd.os.ne ha)
  refine call_run (Q := NewI C a Q) (R := fun v H2 => v = .non ∧ R (.ref a) H2) hd2 (.cons (.at a) (r.mono (ss s1))) hp hP hQ fun d O' v H' ⟨ed, gs, O3, hp3, q⟩ hd' s' r' => ?_
  subst ed
  cases r'
  refine ⟨rfl, ?_⟩
  obtain ⟨h1, h2⟩ := hd'.perm hp3
  rcases q with q | q
  · obtain ⟨h3, h4, h5, h6⟩ := h1.drop
    obtain ⟨dx', fs, h7, h8⟩ := h1.os.ow a _ (List.mem_cons_self ..)
    exact kk _ O3 (.ref a) H' q h3 (s1.trans (s'.trans (h2.trans h4))) (.ins (stb_of h5 h6 h7) (h8.mono (ss h4)))
  · exact kk _ _ (.ref a) H' q h1 (s1.trans (s'.trans h2)) (.at a)
theorem we_make (M : Mk X.K C g) (Fo : FnOk X.prog X.w X.K X.mg X.base CX k g fd ps (spD X.K PP)) (hr : Room (k + 1) X.A) (hm : X.mg xc = some (.ref C)) (hb : Binds X.K fd ps []) (hx : Passes CX X E)
    (h : WA X F (e :: es) Γ O fun ds O1 => ∀ a, a ∉ ads O1 → CallD PP (.at a :: ds) ((a, .ins C []) :: O1) (NewI C a Q))
    (hg : Gl X xc := by rfl) (hdb : (xc == ("__debug__" : Str)) = false := by decide) (he : starEach (e :: es) X.env = (false, eval e X.env) :: starEach es X.env := by rfl) (hpl : (backTo pos (starEach es X.env)).any (·.1) = false := by rfl) :
    WE X F (.Call (.Name xc p) (e :: es) [] pos) Γ O Q :=
  we_of (pe_make M Fo hr hg hm hb .nil hx h hdb he hpl) fun σ H R hd kk => ⟨hd, fun ds O1 vs H1 q1 hd1 s1 r1 a dx ha hdx hne => by
    rw [List.append_nil]
    exact made_run hd1 r1 ha hdx hne (q1 a) fun d O' v H' q hd' s' r' => kk d O' v H' q hd' (s1.trans s') r'⟩
/-- the usual __init__: it changes the new object alone -/
theorem cdI {a : Addr} {ds : List D} (gs : List (Str × D)) (hP : PP (.at a :: ds) [(a, .ins C [])] fun d O' => d = .non ∧ O' = [(a, .ins C gs)]) (q : Q (.ins C gs) O) : CallD PP (.at a :: ds) ((a, .ins C []) :: O) (NewI C a Q) :=
  ⟨[(a, .ins C [])], O, _, List.Perm.refl _, hP, fun d O' ⟨e1, e2⟩ => ⟨e1, gs, O, by subst e2; exact List.Perm.refl _, .inl q⟩⟩
theorem cdIo {a : Addr} {ds : List D} (gs : List (Str × D)) (hP : PP (.at a :: ds) [(a, .ins C [])] fun d O' => d = .non ∧ O' = [(a, .ins C gs)]) (q : Q (.at a) ((a, .ins C gs) :: O)) : CallD PP (.at a :: ds) ((a, .ins C []) :: O) (NewI C a Q) :=
  ⟨[(a, .ins C [])], O, _, List.Perm.refl _, hP, fun d O' ⟨e1, e2⟩ => ⟨e1, gs, O, by subst e2; exact List.Perm.refl _, .inr q⟩⟩

/-! ### operators of an own class -/
/-- the class of a value -/
def DTy (X : Cx) (F : Fx) (x : D) (O : Ow) (t : Value) : Prop := ∀ H v, OwsOk X.K F O H → Rep X.K (stb F O H) v x → TyX X.K H v t
theorem dty_of {y : D} {T : String} (w : Vw x O y) (h : tyName y = some T) : DTy X F x O (.type T) := fun H v os r => tyx_of h (w.rep os r)
theorem dty_ins (T : InsTy X.K C) (h : InsD x O C gs) : DTy X F x O (.ref C) := fun H v os r => by
  obtain ⟨a, dx, fs, rfl, h1, _⟩ := h.get os r
  exact .base (.ins h1 T.cl T.ha T.hn T.ht T.hm)
variable {y : D}
theorem opd_eqO {tb : Value} (hi : InsD x O C gs) (ty : DTy X F y O tb) (hn : PySem.W.notFirst X.K C tb = true) (h : CallP PP [x, y] O Q) : OpD X F (rOEq X C (spD X.K PP) E) x y Γ O Q := fun σ H v u R hd hv hu k =>
  ⟨hi.is hd.os hv, ⟨tb, ty H u hd.os hu, hn⟩, callp_run hd (.cons hv (.cons hu .nil)) h k⟩
theorem opd_neO {tb : Value} (hi : InsD x O C gs) (ty : DTy X F y O tb) (hn : PySem.W.notFirst X.K C tb = true) (h : CallP PP [x, y] O fun d O' => ∃ k, d = .bl k ∧ Q (.bl (!k)) O') : OpD X F (rONe X C (spD X.K PP) E) x y Γ O Q := fun σ H v u R hd hv hu k =>
  ⟨hi.is hd.os hv, ⟨tb, ty H u hd.os hu, hn⟩, callp_run hd (.cons hv (.cons hu .nil)) h fun d O' w H' ⟨b, e, q⟩ hd' s' r' => by
    subst e; cases r'
    exact ⟨b, rfl, k _ O' _ H' q hd' s' (.bl _)⟩⟩
theorem opd_inO {neg : Bool} (hi : InsD y O C gs) (h : CallP PP [y, x] O fun d O' => ∃ k, d = .bl k ∧ Q (.bl (k != neg)) O') : OpD X F (rOIn neg C (spD X.K PP) E) x y Γ O Q := fun σ H v u R hd hv hu k =>
  ⟨hi.is hd.os hu, callp_run hd (.cons hu (.cons hv .nil)) h fun d O' w H' ⟨b, e, q⟩ hd' s' r' => by
    subst e; cases r'
    exact ⟨b, rfl, k _ O' _ H' q hd' s' (.bl _)⟩⟩
theorem opd_inO1 (hi : InsD y O C gs) (h : CallP PP [y, x] O fun d O' => ∃ k, d = .bl k ∧ Q (.bl k) O') : OpD X F (rOIn false C (spD X.K PP) E) x y Γ O Q := fun σ H v u R hd hv hu k =>
  ⟨hi.is hd.os hu, callp_run hd (.cons hu (.cons hv .nil)) h fun d O' w H' ⟨b, e, q⟩ hd' s' r' => by
    subst e; cases r'
    refine ⟨b, rfl, ?_⟩
    rw [show (b != false) = b from by cases b <;> rfl]
    exact k _ O' _ H' q hd' s' (.bl _)⟩
theorem opd_2C (T : InsTy X.K C) {gs' : List (Str × D)} (hi : InsD x O C gs) (hj : InsD y O C gs') (h : CallP PP [x, y] O Q) : OpD X F (rO2C X C (spD X.K PP) E) x y Γ O Q := fun σ H v u R hd hv hu k =>
  ⟨hi.is hd.os hv, dty_ins T hj H u hd.os hu, callp_run hd (.cons hv (.cons hu .nil)) h k⟩
theorem opd_2I {i : Int} (hi : InsD x O C gs) (h : CallP PP [x, .int i] O Q) : OpD X F (rO2T "int" C (spD X.K PP) E) x (.int i) Γ O Q := fun σ H v u R hd hv hu k => by
  cases hu
  exact ⟨hi.is hd.os hv, .int, callp_run hd (.cons hv (.cons (.int i) .nil)) h k⟩
variable {a b : Expr}
theorem we_ixO (m : OwnM X.K C "__getitem__" g) (Fo : FnOk X.prog X.w X.K X.mg X.base CX k g fd ps (spD X.K PP)) (hr : Room (k + 1) X.A) (hb : Binds X.K fd ps []) (hx : Passes CX X E)
    (h : WE X F a Γ O fun x O1 => WE X F b Γ O1 fun y O2 => (∃ gs, InsD x O2 C gs) ∧ CallP PP [x, y] O2 Q)
    (hs : ∀ v u : Value, subscripted b true v u = runValue (.builtin "lifetime.subscript" ⟨[v, u], []⟩) := by intro _ _; with_unfolding_all rfl) : WE X F (.Subscript a b pos) Γ O Q :=
  we_bin (fun ha hbb => pe_ixO m (fnr Fo hb) hr hx ha hbb hs) (we_imp h fun x O1 h => we_imp h fun y O2 ⟨⟨gs, hi⟩, hc⟩ σ H v u R hd hv hu k =>
    ⟨hi.is hd.os hv, callp_run hd (.cons hv (.cons hu .nil)) hc k⟩)
theorem we_negO (m : OwnM X.K C "__neg__" g) (Fo : FnOk X.prog X.w X.K X.mg X.base CX k g fd ps (spD X.K PP)) (hr : Room k X.A) (hb : Binds X.K fd ps []) (hx : Passes CX X E)
    (h : WE X F a Γ O fun x O1 => (∃ gs, InsD x O1 C gs) ∧ CallP PP [x] O1 Q) : WE X F (.UnaryOp .USub a pos) Γ O Q :=
  we_una (pe_un (un_negO m (fnr Fo hb) hr hx)) (we_imp h fun x O1 ⟨⟨gs, hi⟩, hc⟩ σ H v R hd hv k => ⟨hi.is hd.os hv, callp_run hd (.cons hv .nil) hc k⟩)
theorem we_lenO (hm : X.mg "len" = none) (m : OwnM X.K C "__len__" g) (Fo : FnOk X.prog X.w X.K X.mg X.base CX k g fd ps (spD X.K PP)) (hr : Room (k + 1) X.A) (hb : Binds X.K fd ps []) (hx : Passes CX X E)
    (h : WE X F a Γ O fun x O1 => (∃ gs, InsD x O1 C gs) ∧ CallP PP [x] O1 fun d O' => ∃ i : Int, d = .int i ∧ (0 ≤ i ∧ i < 2 ^ 63) ∧ Q (.int i) O') (hg : Gl X "len" := by rfl)
    (he : starEach (a :: []) X.env = (false, eval a X.env) :: starEach [] X.env := by rfl) (hpl : (backTo pos (starEach [] X.env)).any (·.1) = false := by rfl) : WE X F (.Call (.Name "len" p) [a] [] pos) Γ O Q :=
  we_cal (fun ha => pe_callB (call_lenO m (fnr Fo hb) hr hx) hg hm (by decide +kernel) ha (by decide) (by decide) he hpl) (wa_cons (we_imp h fun x O1 ⟨⟨gs, hi⟩, hc⟩ => wa_nil fun σ H vs R hd hv k => by
    cases hv with
    | cons hv hn =>
      cases hn
      exact ⟨_, rfl, hi.is hd.os hv, callp_run hd (.cons hv .nil) hc fun d O' w H' ⟨i, e, hi2, q⟩ hd' s' r' => by
        subst e; cases r'
        exact ⟨i, rfl, hi2, k _ O' _ H' q hd' s' (.int _)⟩⟩) he)
theorem we_boolO (hm : X.mg "bool" = none) (m : OwnM X.K C "__len__" g) (hbo : PySem.W.findIn X.K (.ref C) "__bool__" = some none) (Fo : FnOk X.prog X.w X.K X.mg X.base CX k g fd ps (spD X.K PP)) (hr : Room (k + 3) X.A) (hb : Binds X.K fd ps []) (hx : Passes CX X E)
    (h : WE X F a Γ O fun x O1 => (∃ gs, InsD x O1 C gs) ∧ CallP PP [x] O1 fun d O' => ∃ i : Int, d = .int i ∧ (0 ≤ i ∧ i < 2 ^ 63) ∧ Q (.bl (i != 0)) O') (hg : Gl X "bool" := by rfl)
    (he : starEach (a :: []) X.env = (false, eval a X.env) :: starEach [] X.env := by rfl) (hpl : (backTo pos (starEach [] X.env)).any (·.1) = false := by rfl) : WE X F (.Call (.Name "bool" p) [a] [] pos) Γ O Q :=
  we_cal (fun ha => pe_callTy (call_boolO m hbo (fnr Fo hb) hr hx) hg hm (by decide +kernel) ha (by decide) (by decide) he hpl) (wa_cons (we_imp h fun x O1 ⟨⟨gs, hi⟩, hc⟩ => wa_nil fun σ H vs R hd hv k => by
    cases hv with
    | cons hv hn =>
      cases hn
      exact ⟨_, rfl, hi.is hd.os hv, callp_run hd (.cons hv .nil) hc fun d O' w H' ⟨i, e, hi2, q⟩ hd' s' r' => by
        subst e; cases r'
        exact ⟨i, rfl, hi2, k _ O' _ H' q hd' s' (.bl _)⟩⟩) he)
/-- f(e, ..), f an instance -/
theorem we_callO {fe : Expr} (c : StX.CallO X.K C g) (Fo : FnOk X.prog X.w X.K X.mg X.base CX k g fd ps (spD X.K PP)) (hr : Room k X.A) (hb : Binds X.K fd ps []) (hx : Passes CX X E)
    (h : WE X F fe Γ O fun x O1 => (∃ gs, InsD x O1 C gs) ∧ WA X F (e :: es) Γ O1 fun ds O2 => (∃ gs, InsD x O2 C gs) ∧ CallP PP (x :: ds) O2 Q)
    (ht : eval (.Call fe (e :: es) [] pos) X.env = (do callWith pos (← eval fe X.env) [] (backTo pos (starEach (e :: es) X.env)) (backToKw pos (keywordEach [] X.env))) := by rfl)
    (he : starEach (e :: es) X.env = (false, eval e X.env) :: starEach es X.env := by rfl) (hpl : (backTo pos (starEach es X.env)).any (·.1) = false := by rfl) : WE X F (.Call fe (e :: es) [] pos) Γ O Q :=
  we_of (StX.pe_callO h c (fnr Fo hb) hr hx (pa_any (es := e :: es)) ht he hpl) fun σ H R hd kk => ⟨hd, fun x O1 v H1 ⟨⟨gs, hi⟩, q1⟩ hd1 s1 r1 => by
    obtain ⟨a, dx, fs, ev, h1, h2⟩ := hi.get hd1.os r1
    refine ⟨a, ev, wa_run q1 hd1 fun ds O2 vs H2 ⟨⟨gs2, hi2⟩, q2⟩ hd2 s2 r2 => ?_⟩
    have r1' := r1.mono (ss s2)
    obtain ⟨a2, dx2, fs2, ev2, h3, h4⟩ := hi2.get hd2.os r1'
    rw [ev] at ev2 r1'
    cases ev2
    exact ⟨.inr ⟨dx2, fs2, h3⟩, callp_run hd2 (.cons r1' r2) q2 fun d O' w H' q hd' s' r' => kk d O' w H' q hd' (s1.trans (s2.trans s')) r'⟩⟩
end
end Dl

namespace Dl
open PySem PySem.Spec PyProof.Rows L2

/-! ### nodes by their form alone: what the operands are is looked at behind them -/
section
variable {X : Cx} {F : Fx} {Γ : Ga} {O : Ow} {Q : QD} {QT : Bool → Ow → Prop} {a b c e : Expr} {rest : List Expr} {pos p : Pos} {op : Operator} {cop : CmpOp} {x y : D}
def BO (X : Cx) (F : Fx) (op : Operator) (x y : D) (Γ : Ga) (O : Ow) (Q : QD) : Prop := ∃ r, OpR X (binaryOp op) r ∧ OpD X F r x y Γ O Q
def CoO (X : Cx) (F : Fx) (op : CmpOp) (x y : D) (Γ : Ga) (O : Ow) (Q : QD) : Prop := ∃ r, OpR X (compareOp op) r ∧ OpD X F r x y Γ O Q
def IxO (X : Cx) (F : Fx) (x y : D) (Γ : Ga) (O : Ow) (Q : QD) : Prop := ∃ r, IxR X r ∧ OpD X F r x y Γ O Q
def SxO (X : Cx) (F : Fx) (x : D) (l u : Option Int) (Γ : Ga) (O : Ow) (Q : QD) : Prop := ∃ r, SlR X r ∧ SlD X F r x l u Γ O Q
theorem we_B (h : WE X F a Γ O fun x O1 => WE X F b Γ O1 fun y O2 => BO X F op x y Γ O2 Q) : WE X F (.BinOp a op b pos) Γ O Q :=
  we_bin (r := fun v u H R => ∃ r, OpR X (binaryOp op) r ∧ r v u H R) (pe_op fun pins s σ H x y v u Q I rx ry ⟨r, hr, h⟩ => hr pins s σ H x y v u Q I rx ry h)
    (we_imp h fun x O1 h => we_imp h fun y O2 ⟨r, hr, h⟩ σ H v u R hd hv hu k => ⟨r, hr, h σ H v u R hd hv hu k⟩)
theorem coR : OpR X (compareOp cop) (fun v u H R => ∃ r, OpR X (compareOp cop) r ∧ r v u H R) := fun pins s σ H x y v u Q I rx ry ⟨r, hr, h⟩ => hr pins s σ H x y v u Q I rx ry h
theorem we_C (h : WE X F a Γ O fun x O1 => WE X F b Γ O1 fun y O2 => CoO X F cop x y Γ O2 Q) (hm : behindInMarks cop b = false := by first | exact nomark _ | rfl) : WE X F (.Compare a [cop] [b] pos) Γ O Q :=
  we_cmp coR (we_imp h fun x O1 h => we_imp h fun y O2 ⟨r, hr, h⟩ σ H v u R hd hv hu k => ⟨r, hr, h σ H v u R hd hv hu k⟩) hm
theorem wt_C (h : WE X F a Γ O fun x O1 => WE X F b Γ O1 fun y O2 => CoO X F cop x y Γ O2 (QB QT)) (hm : behindInMarks cop b = false := by first | exact nomark _ | rfl) : WT X F (.Compare a [cop] [b] pos) Γ O QT :=
  wt_cmp coR (we_imp h fun x O1 h => we_imp h fun y O2 ⟨r, hr, h⟩ σ H v u R hd hv hu k => ⟨r, hr, h σ H v u R hd hv hu k⟩) hm
theorem we_X (h : WE X F a Γ O fun x O1 => WE X F b Γ O1 fun y O2 => IxO X F x y Γ O2 Q) (hs : PlainIx b := by exact fun _ _ => rfl) : WE X F (.Subscript a b pos) Γ O Q :=
  we_bin (r := fun v u H R => ∃ r, IxR X r ∧ r v u H R) (fun ha hb => pe_ix (fun value slice pins s σ H x y v u Q I rx ry ⟨r, hr, h⟩ hs => hr value slice pins s σ H x y v u Q I rx ry h hs) ha hb hs)
    (we_imp h fun x O1 h => we_imp h fun y O2 ⟨r, hr, h⟩ σ H v u R hd hv hu k => ⟨r, hr, h σ H v u R hd hv hu k⟩)
theorem slR_any : SlR X (fun v l u H R => ∃ r, SlR X r ∧ r v l u H R) := fun pins s σ H x v vl vu lo hi sl Q I rx hs pl pu ⟨r, hr, h⟩ => hr pins s σ H x v vl vu lo hi sl Q I rx hs pl pu h
theorem we_S {lo hi : Option Expr} {p2 : Pos} (h : WE X F a Γ O fun x O1 => WO X F lo Γ O1 fun l O2 => WO X F hi Γ O2 fun u O3 => SxO X F x l u Γ O3 Q) : WE X F (.Subscript a (.Slice lo hi none p2) pos) Γ O Q :=
  we_sli slR_any (we_imp h fun x O1 h => po_weak h fun σ H R ⟨hd, k⟩ => ⟨hd, fun d O' H' q => k d O' H' (po_weak q fun σ H R ⟨hd, k⟩ => ⟨hd, fun u O3 H' ⟨r, hr, q⟩ => k u O3 H' fun σ H v R hd hv k => ⟨r, hr, q σ H v R hd hv k⟩⟩)⟩)
/-! slices -/
theorem sx_S {z : List Nat} {l u : Option Int} (hz : z.length ≤ sizeLine) (q : Q (.str (cut z l u)) O) : SxO X F (.str z) l u Γ O Q := ⟨_, sl_str, fun σ H v R hd hv k => by
  cases hv
  exact ⟨sOf z, rfl, by rw [sOf_len]; exact hz, by
    have e2 : cutS (sOf z) l u = sOf (cut z l u) := by
      unfold cutS cut
      rw [sOf_len]
    rw [e2]
    exact k _ O _ H q hd same_refl (.str _)⟩⟩
theorem sx_L {x : D} {z : List D} {l u : Option Int} (w : Vw x O (.lst z)) (q : NewL (cut z l u) O Q) : SxO X F x l u Γ O Q := ⟨_, sl_list, fun σ H v R hd hv k => by
  obtain ⟨p, xs, rfl, h1, h2⟩ := w.lst hd.os hv
  exact ⟨p, xs, rfl, SqL.of h1, q.run hd (reps_cut h2 l u) k⟩⟩
theorem sx_T {z : List D} {l u : Option Int} (q : Q (.tup (cut z l u)) O) : SxO X F (.tup z) l u Γ O Q := ⟨_, sl_tupA, fun σ H v R hd hv k => by
  cases hv with
  | @tup p xs _ h1 h2 =>
    refine ⟨p, xs, rfl, (h1.mono stb_same).sq, fun hw => ?_, fun _ => newT_run q hd (reps_cut h2 l u) k⟩
    have e : cut z l u = z := by
      unfold cut
      rw [← h2.length, hw.1, hw.2]
      simp [h2.length]
    rw [e] at q
    exact k _ O _ H q hd same_refl (.tup h1 h2)⟩
/-! indices -/
theorem ix_L {ds : List D} {i : Int} {d : D} (w : Vw x O (.lst ds)) (hi : atI ds i = some d) (q : Q d O) : IxO X F x (.int i) Γ O Q := ⟨_, ix_list, fun σ H v u R hd hv hu k => by
  cases hu
  obtain ⟨p, xs, rfl, h1, h2⟩ := w.lst hd.os hv
  obtain ⟨z, e, r⟩ := reps_atI h2 hi
  exact ⟨p, xs, i, z, rfl, rfl, SqL.of h1, e, k d O z H q hd same_refl r⟩⟩
theorem ix_T {ds : List D} {i : Int} {d : D} (hi : atI ds i = some d) (q : Q d O) : IxO X F (.tup ds) (.int i) Γ O Q := ⟨_, ix_tup, fun σ H v u R hd hv hu k => by
  cases hu
  cases hv with
  | tup h1 h2 =>
    obtain ⟨z, e, r⟩ := reps_atI h2 hi
    exact ⟨_, _, i, z, rfl, rfl, (h1.mono stb_same).sq, e, k d O z H q hd same_refl r⟩⟩
theorem ix_S {l : List Nat} {i : Int} {c : Nat} (hz : l.length ≤ sizeLine) (hi : atI l i = some c) (q : Q (.str [c]) O) : IxO X F (.str l) (.int i) Γ O Q := ⟨_, ix_seq, fun σ H v u R hd hv hu k => by
  cases hu
  cases hv
  exact .inr (.inr ⟨sOf l, i, c, rfl, rfl, by rw [sOf_len]; exact hz, hi, k _ O _ H q hd same_refl (.str [c])⟩)⟩
theorem ix_R {ds : List D} {i : Int} {d : D} (hi : atI ds i = some d) (q : Q d O) : IxO X F (.rl ds) (.int i) Γ O Q := ⟨_, ix_list, fun σ H v u R hd hv hu k => by
  cases hu
  cases hv with
  | rl h1 h2 =>
    obtain ⟨z, e, r⟩ := reps_atI h2 hi
    exact ⟨_, _, i, z, rfl, rfl, sql_mono stb_same h1, e, k d O z H q hd same_refl r⟩⟩
/-! operators -/
variable {i j : Int} {l m : List Nat}
theorem b_addI (q : Q (.int (i + j)) O) : BO X F .Add (.int i) (.int j) Γ O Q := ⟨_, op_add, opd_I0 (g := fun i j => i + j) q⟩
theorem b_subI (q : Q (.int (i - j)) O) : BO X F .Sub (.int i) (.int j) Γ O Q := ⟨_, op_sub, opd_I0 (g := fun i j => i - j) q⟩
theorem b_mulI (hc : CMulW i j) (q : Q (.int (i * j)) O) : BO X F .Mult (.int i) (.int j) Γ O Q := ⟨_, op_mulW, opd_I (g := fun i j => i * j) hc q⟩
theorem b_divI (hc : CDivW i j) (q : Q (.int (i / j)) O) : BO X F .FloorDiv (.int i) (.int j) Γ O Q := ⟨_, op_fdivW, opd_I (g := fun i j => i / j) hc q⟩
theorem b_modI (hc : 0 < j) (q : Q (.int (i % j)) O) : BO X F .Mod (.int i) (.int j) Γ O Q := ⟨_, op_mod, opd_I (C := fun _ j => 0 < j) (g := fun i j => i % j) hc q⟩
theorem b_powI (hc : CPowW i j) (q : Q (.int (i ^ j.toNat)) O) : BO X F .Pow (.int i) (.int j) Γ O Q := ⟨_, op_powW, opd_I (g := fun i j => i ^ j.toNat) hc q⟩
theorem b_addS (hz : l.length + m.length ≤ sizeLine) (q : Q (.str (l ++ m)) O) : BO X F .Add (.str l) (.str m) Γ O Q := ⟨_, op_add_str, fun σ H v u R hd hv hu k => by
  cases hv; cases hu
  refine ⟨sOf l, sOf m, rfl, rfl, by rw [sOf_len, sOf_len]; exact hz, ?_⟩
  rw [sOf_app]
  exact k _ O _ H q hd same_refl (.str _)⟩
theorem b_repS (hc : 0 ≤ j ∧ j ≤ 100000 ∧ l.length ≤ 100000 ∧ l.length * j.toNat ≤ sizeLine) (q : Q (.str (repL l j)) O) : BO X F .Mult (.str l) (.int j) Γ O Q := ⟨_, op_repS, fun σ H v u R hd hv hu k => by
  cases hv; cases hu
  exact ⟨l, j, rfl, rfl, hc.1, hc.2.1, hc.2.2.1, hc.2.2.2, k _ O _ H q hd same_refl (.str _)⟩⟩
variable {ds es : List D}
theorem b_addL (w : Vw x O (.lst ds)) (w2 : Vw y O (.lst es)) (hz : ds.length + es.length ≤ sizeLine) (q : NewL (ds ++ es) O Q) : BO X F .Add x y Γ O Q := ⟨_, op_cat, fun σ H v u R hd hv hu k => by
  obtain ⟨p1, xs, rfl, h1, h2⟩ := w.lst hd.os hv
  obtain ⟨p2, ys, rfl, h3, h4⟩ := w2.lst hd.os hu
  exact ⟨p1, p2, xs, ys, rfl, rfl, h1, h3, by rw [h2.length, h4.length]; exact hz, q.run hd (h2.append h4) k⟩⟩
theorem b_repL (w : Vw x O (.lst ds)) (hc : -(2 ^ 63) ≤ j ∧ j < 2 ^ 63 ∧ ds.length * j.toNat ≤ sizeLine) (q : NewL (repL ds j) O Q) : BO X F .Mult x (.int j) Γ O Q := ⟨_, op_rep, fun σ H v u R hd hv hu k => by
  cases hu
  obtain ⟨p1, xs, rfl, h1, h2⟩ := w.lst hd.os hv
  exact ⟨p1, j, xs, rfl, rfl, h1, hc.1, hc.2.1, by rw [h2.length]; exact hc.2.2, q.run hd (reps_rep h2 j.toNat) k⟩⟩
theorem b_addT (hz : ds.length + es.length ≤ sizeLine) (q : Q (.tup (ds ++ es)) O) : BO X F .Add (.tup ds) (.tup es) Γ O Q := ⟨_, op_catA, fun σ H v u R hd hv hu k => by
  cases hv with
  | tup h1 h2 =>
    cases hu with
    | tup h3 h4 =>
      refine ⟨_, _, _, _, rfl, rfl, (h1.mono stb_same).sq, (h3.mono stb_same).sq, by rw [h2.length, h4.length]; exact hz, fun e => ?_, fun _ e => ?_, fun _ _ => newT_run q hd (h2.append h4) k⟩
      · subst e
        cases h2
        exact k _ O _ H q hd same_refl (.tup h3 h4)
      · subst e
        cases h4
        rw [List.append_nil] at q
        exact k _ O _ H q hd same_refl (.tup h1 h2)⟩
/-! comparisons -/
theorem c_ltI (q : Q (.bl (decide (i < j))) O) : CoO X F .Lt (.int i) (.int j) Γ O Q := ⟨_, op_lt, opd_B0 (g := fun i j => decide (i < j)) q⟩
theorem c_leI (q : Q (.bl (decide (i ≤ j))) O) : CoO X F .LtE (.int i) (.int j) Γ O Q := ⟨_, op_le, opd_B0 (g := fun i j => decide (i ≤ j)) q⟩
theorem c_gtI (q : Q (.bl (decide (j < i))) O) : CoO X F .Gt (.int i) (.int j) Γ O Q := ⟨_, op_gt, opd_B0 (g := fun i j => decide (j < i)) q⟩
theorem c_geI (q : Q (.bl (decide (j ≤ i))) O) : CoO X F .GtE (.int i) (.int j) Γ O Q := ⟨_, op_ge, opd_B0 (g := fun i j => decide (j ≤ i)) q⟩
theorem c_eqI (q : Q (.bl (decide (i = j))) O) : CoO X F .Eq (.int i) (.int j) Γ O Q := ⟨_, op_eq, opd_eqI q⟩
theorem c_neI (q : Q (.bl (!decide (i = j))) O) : CoO X F .NotEq (.int i) (.int j) Γ O Q := ⟨_, op_ne, opd_neI q⟩
theorem c_eqS (q : Q (.bl (decide (l = m))) O) : CoO X F .Eq (.str l) (.str m) Γ O Q := ⟨_, op_eq, opd_eqS q⟩
theorem c_neS (q : Q (.bl (!decide (l = m))) O) : CoO X F .NotEq (.str l) (.str m) Γ O Q := ⟨_, op_ne, opd_neS q⟩
variable {k1 k2 : Bool}
theorem c_eqB (q : Q (.bl (decide (k1 = k2))) O) : CoO X F .Eq (.bl k1) (.bl k2) Γ O Q := ⟨_, op_eq, opd_eqB q⟩
theorem c_neB (q : Q (.bl (!decide (k1 = k2))) O) : CoO X F .NotEq (.bl k1) (.bl k2) Γ O Q := ⟨_, op_ne, opd_neB q⟩
theorem c_isB (q : Q (.bl (decide (k1 = k2))) O) : CoO X F .Is (.bl k1) (.bl k2) Γ O Q := ⟨_, op_isBl, opd_isB q⟩
theorem c_isN (q : Q (.bl (isNon x)) O) : CoO X F .Is x .non Γ O Q := ⟨_, op_isN, opd_isN q⟩
theorem c_notN (q : Q (.bl (!isNon x)) O) : CoO X F .IsNot x .non Γ O Q := ⟨_, op_notN, opd_notN q⟩
theorem c_eqD {n m : Nat} {x' y' : D} (hu : X.A.units + 64 < cLine) (wx : Vw x O x') (wy : Vw y O y') (hx : okN n x' = true) (hy : okN m y' = true) (q : Q (.bl (eqD x' y')) O) (hn : n ≤ 64 := by decide) (hm : m ≤ 64 := by decide) : CoO X F .Eq x y Γ O Q := ⟨_, op_eqD hu, opd_eq wx wy hx hy q hn hm⟩
theorem c_neD {n m : Nat} {x' y' : D} (hu : X.A.units + 64 < cLine) (wx : Vw x O x') (wy : Vw y O y') (hx : okN n x' = true) (hy : okN m y' = true) (q : Q (.bl (!eqD x' y')) O) (hn : n ≤ 64 := by decide) (hm : m ≤ 64 := by decide) : CoO X F .NotEq x y Γ O Q := ⟨_, op_neD hu, opd_ne wx wy hx hy q hn hm⟩
variable {cc : Nat}
theorem c_inS (q : Q (.bl (decide (cc ∈ l))) O) : CoO X F .In (.str [cc]) (.str l) Γ O Q := ⟨_, op_in_sign, opd_inS q⟩
theorem c_ninS (q : Q (.bl (!decide (cc ∈ l))) O) : CoO X F .NotIn (.str [cc]) (.str l) Γ O Q := ⟨_, op_notIn_sign, opd_ninS q⟩
theorem c_inT {ls : List (List Nat)} (w : Vw y O (.lst (ls.map D.str)) ∨ y = .tup (ls.map D.str)) (q : Q (.bl (decide (l ∈ ls))) O) : CoO X F .In (.str l) y Γ O Q := ⟨_, op_in_seq, opd_inT w q⟩
theorem c_ninT {ls : List (List Nat)} (w : Vw y O (.lst (ls.map D.str)) ∨ y = .tup (ls.map D.str)) (q : Q (.bl (!decide (l ∈ ls))) O) : CoO X F .NotIn (.str l) y Γ O Q := ⟨_, op_notIn_seq, opd_ninT w q⟩
theorem c_inN {ls : List Int} (w : Vw y O (.lst (ls.map D.int)) ∨ y = .tup (ls.map D.int)) (q : Q (.bl (decide (i ∈ ls))) O) : CoO X F .In (.int i) y Γ O Q := ⟨_, op_in_seq, opd_inN w q⟩
theorem c_ninN {ls : List Int} (w : Vw y O (.lst (ls.map D.int)) ∨ y = .tup (ls.map D.int)) (q : Q (.bl (!decide (i ∈ ls))) O) : CoO X F .NotIn (.int i) y Γ O Q := ⟨_, op_notIn_seq, opd_ninN w q⟩
/-! a op b op' c -/
theorem we_chain {cop' : CmpOp} {f g : Int → Int → Bool} (ho : OpR X (compareOp cop) (rI0 fun i j => .bl (f i j))) (ho' : OpR X (compareOp cop') (rI0 fun i j => .bl (g i j)))
    (h : WE X F a Γ O fun x O1 => WE X F b Γ O1 fun y O2 => ∃ i j, ∃ n : Int, x = .int i ∧ y = .int j ∧ (f i j = true → WE X F c Γ O2 fun z O3 => z = .int n ∧ O3 = O2) ∧ Q (.bl (f i j && g j n)) O2)
    (hm : lastMarks [cop, cop'] [b, c] = false := by with_unfolding_all rfl) : WE X F (.Compare a [cop, cop'] [b, c] pos) Γ O Q :=
  we_chainG ho ho' (fun ha hb hc => pe_chain ho ho' ha hb hc hm) h
theorem wt_chain {cop' : CmpOp} {f g : Int → Int → Bool} (ho : OpR X (compareOp cop) (rI0 fun i j => .bl (f i j))) (ho' : OpR X (compareOp cop') (rI0 fun i j => .bl (g i j)))
    (h : WE X F a Γ O fun x O1 => WE X F b Γ O1 fun y O2 => ∃ i j, ∃ n : Int, x = .int i ∧ y = .int j ∧ (f i j = true → WE X F c Γ O2 fun z O3 => z = .int n ∧ O3 = O2) ∧ QT (f i j && g j n) O2)
    (hm : lastMarks [cop, cop'] [b, c] = false := by with_unfolding_all rfl) : WT X F (.Compare a [cop, cop'] [b, c] pos) Γ O QT :=
  wt_chainG ho ho' (fun ha hb hc => pt_chain ho ho' ha hb hc hm) h
/-! and, or, in the order of the walk: what goes on is asked first -/
theorem wt_bl {QT : Bool → Ow → Prop} {O : Ow} {k : Bool} (q : QT k O) : QB QT (.bl k) O := ⟨k, rfl, q⟩
end

/-! ### sizes -/
theorem log2_lt {n k : Nat} (h : n < 2 ^ k) (hk : 0 < k) : n.log2 < k := by
  by_cases h0 : n = 0
  · subst h0
    rw [Nat.log2_zero]
    exact hk
  · exact (Nat.log2_lt h0).mpr h
theorem cmul_of {i j : Int} (k m : Nat) (h1 : i.natAbs < 2 ^ k) (h2 : j.natAbs < 2 ^ m) (hk : 0 < k := by decide) (hm : 0 < m := by decide) (hs : k + m ≤ 1000000 := by decide) : CMulW i j := by
  have a := log2_lt h1 hk
  have b := log2_lt h2 hm
  unfold CMulW
  omega
theorem cdiv_of {i j : Int} (k : Nat) (h0 : 0 < j) (h2 : j.natAbs < 2 ^ k) (hk : 0 < k := by decide) (hs : k ≤ 9000 := by decide) : CDivW i j := ⟨h0, by
  have b := log2_lt h2 hk
  omega⟩
theorem cpow_of {i j : Int} (k m : Nat) (h1 : i.natAbs < 2 ^ k) (h0 : 0 ≤ j) (h2 : j ≤ m) (hk : 0 < k := by decide) (hs : k * m ≤ 2 ^ 27 := by decide) : CPowW i j := by
  refine ⟨h0, ?_⟩
  have a := log2_lt h1 hk
  have b : Builtin.Int.intBits i ≤ k := by
    unfold Builtin.Int.intBits
    split <;> omega
  have c : (Builtin.Int.intBits i : Int) * j ≤ (k : Int) * (m : Int) := Int.mul_le_mul (by omega) h2 h0 (by omega)
  have d : ((k * m : Nat) : Int) ≤ ((2 ^ 27 : Nat) : Int) := Int.ofNat_le.mpr hs
  rw [Int.natCast_mul] at d
  omega
end Dl

namespace Dl
open PySem PySem.Spec PyProof.Rows L2

/-! ### comprehensions, by what they make -/
section
variable {X : Cx} {scope : Scope} {F : Fx} {Γ : Ga} {O : Ow} {c elt tg iter : Expr} {pos : Pos} {α : Type}
theorem wi_imp {Q Q' : QI} (h : WI X F tg iter Γ O Q') (k : ∀ ds Ke O1, Q' ds Ke O1 → Q ds Ke O1) : WI X F tg iter Γ O Q := pi_weak h fun σ H R ⟨h1, h2⟩ => ⟨h1, fun ds Ke O1 H1 J q => h2 ds Ke O1 H1 J (k _ _ _ q)⟩
theorem map_get {f : α → D} {ls : List α} {i : Nat} {d : D} (h : (ls.map f)[i]? = some d) : ∃ a, ls[i]? = some a ∧ d = f a := by
  rw [List.getElem?_map] at h
  cases q : ls[i]? with
  | none => rw [q] at h; cases h
  | some a => rw [q] at h; cases h; exact ⟨a, rfl, rfl⟩
theorem take_get {ls : List α} {i : Nat} {a : α} (h : ls[i]? = some a) : ls.take (i + 1) = ls.take i ++ [a] := by
  have hl := (List.getElem?_eq_some_iff.mp h)
  obtain ⟨h1, h2⟩ := hl
  rw [List.take_succ, h]
  rfl
/-- each item gives one -/
def MapI (X : Cx) (scope : Scope) (tg elt : Expr) (vs : List Nat) (Γ : Ga) (f g : α → D) (ds : List D) (Ke : Ow → Prop) (O1 : Ow) (Q : QD) : Prop :=
  ∃ ls : List α, ds = ls.map f ∧ Ke O1 ∧ ls.length ≤ 10000000 ∧ (∀ (i : Nat) (a : α), ls[i]? = some a → ∀ F', BlkG X scope F' vs tg (f a) (wipeG Γ vs) O1 fun Γ2 O2 => BlkE X scope F' elt Γ2 O2 fun y O4 => y = g a ∧ O4 = O1) ∧ NewL (ls.map g) O1 Q
theorem lc_map {vs : List Nat} {f g : α → D} {ds : List D} {Ke : Ow → Prop} {O1 : Ow} {Q : QD} (h : MapI X scope tg elt vs Γ f g ds Ke O1 Q) : ∃ I : Nat → List D → Ow → Prop, I 0 [] O1 ∧ LcI X scope tg [] elt vs Γ I ds Ke Q := by
  obtain ⟨ls, rfl, hk, hl, ht, he⟩ := h
  refine ⟨fun i acc O' => acc = (ls.take i).map g ∧ O' = O1, ⟨rfl, rfl⟩, fun i acc O' ⟨e1, e2⟩ => ⟨e2 ▸ hk, ?_⟩, by rw [List.length_map]; exact hl, fun i d acc O' hd ⟨e1, e2⟩ F' => ?_, fun acc O' ⟨e1, e2⟩ => ?_⟩
  · subst e1
    rw [List.length_map, List.length_take]
    exact Nat.min_le_left _ _
  · obtain ⟨a, ha, rfl⟩ := map_get hd
    subst e1; subst e2
    intro s H0 C cl fp
    refine pg_weak (ht i a ha F' s H0 C cl fp) fun v σ H R ⟨h1, h2, h3⟩ => ⟨h1, h2, fun Γ' O2 σ' H' q => h3 Γ' O2 σ' H' ?_⟩
    refine bt_nil ⟨fun _ => ?_, fun e => nomatch e⟩
    intro s H0 C cl fp
    refine we_imp (q s H0 C cl fp) fun y O4 ⟨e3, e4⟩ => ⟨?_, e4⟩
    subst e3
    rw [take_get ha, List.map_append]
    rfl
  · subst e1; subst e2
    rw [List.length_map, List.take_length]
    exact he
theorem we_lcM (f g : α → D) {own : List (Str × Nat)} {Q : QD} (hi : WI X F tg iter Γ O fun ds Ke O1 => MapI X scope tg elt (own.map (·.2)) Γ f g ds Ke O1 Q) (hN : X.N.Nodup) (ok : BlkOk X.N X.env.scope scope own)
    (hc : X.calm = true := by rfl) (hs : ∀ x, foldedSetIterable iter X.env x = pure x := by intro _; rfl) : WE X F (.ListComp elt [⟨tg, iter, [], 0⟩] scope pos) Γ O Q :=
  we_lc (wi_imp hi fun ds Ke O1 h => lc_map h) hN ok hc hs
theorem ws_lcM (i : Nat) (f g : α → D) {own : List (Str × Nat)} {Q : Out} {y : Str} {py spos : Pos} (hi : WI X F tg iter Γ O fun ds Ke O1 => MapI X scope tg elt (own.map (·.2)) Γ f g ds Ke O1 fun d O' => Q.nx (Γ.set i (some d)) O') (hN : X.N.Nodup) (ok : BlkOk X.N X.env.scope scope own)
    (hy : X.N[i]? = some y := by rfl) (hyl : X.env.scope.names.lookup y = some .local := by rfl)
    (hsw : swapsWith (.ListComp elt [⟨tg, iter, [], 0⟩] scope pos) (some (.Name y py)) spos.line X.env = pure true := by exact sw_true rfl rfl rfl (by decide +kernel)) (hc : X.calm = true := by rfl) (hs : ∀ x, foldedSetIterable iter X.env x = pure x := by intro _; rfl) :
    WS X F (.Assign [.Name y py] (.ListComp elt [⟨tg, iter, [], 0⟩] scope pos) spos) Γ O Q :=
  ws_setLc i (wi_imp hi fun ds Ke O1 h => lc_map h) hN ok hy hyl hsw hc hs
/-- those that pass give one -/
def FilI (X : Cx) (scope : Scope) (tg c elt : Expr) (vs : List Nat) (Γ : Ga) (f g : α → D) (p : α → Bool) (ds : List D) (Ke : Ow → Prop) (O1 : Ow) (Q : QD) : Prop :=
  ∃ ls : List α, ds = ls.map f ∧ Ke O1 ∧ ls.length ≤ 10000000 ∧ (∀ (i : Nat) (a : α), ls[i]? = some a → ∀ F', BlkG X scope F' vs tg (f a) (wipeG Γ vs) O1 fun Γ2 O2 => BlkT X scope F' [c] Γ2 O2 fun k O3 => k = p a ∧ O3 = O1 ∧ (k = true → BlkE X scope F' elt Γ2 O3 fun y O4 => y = g a ∧ O4 = O1)) ∧
    NewL ((ls.filter p).map g) O1 Q
theorem lc_fil {vs : List Nat} {f g : α → D} {p : α → Bool} {ds : List D} {Ke : Ow → Prop} {O1 : Ow} {Q : QD} (h : FilI X scope tg c elt vs Γ f g p ds Ke O1 Q) : ∃ I : Nat → List D → Ow → Prop, I 0 [] O1 ∧ LcI X scope tg [c] elt vs Γ I ds Ke Q := by
  obtain ⟨ls, rfl, hk, hl, ht, he⟩ := h
  refine ⟨fun i acc O' => acc = ((ls.take i).filter p).map g ∧ O' = O1, ⟨rfl, rfl⟩, fun i acc O' ⟨e1, e2⟩ => ⟨e2 ▸ hk, ?_⟩, by rw [List.length_map]; exact hl, fun i d acc O' hd ⟨e1, e2⟩ F' => ?_, fun acc O' ⟨e1, e2⟩ => ?_⟩
  · subst e1
    rw [List.length_map]
    refine Nat.le_trans (List.length_filter_le _ _) ?_
    rw [List.length_take]
    exact Nat.min_le_left _ _
  · obtain ⟨a, ha, rfl⟩ := map_get hd
    subst e1; subst e2
    intro s H0 C cl fp
    refine pg_weak (ht i a ha F' s H0 C cl fp) fun v σ H R ⟨h1, h2, h3⟩ => ⟨h1, h2, fun Γ' O2 σ' H' q => h3 Γ' O2 σ' H' ?_⟩
    intro s H0 C cl fp
    refine pts_weak (q s H0 C cl fp) fun σ H R ⟨h1, h2⟩ => ⟨h1, fun k O3 H3 ⟨e3, e4, e5⟩ => h2 k O3 H3 ⟨fun hk => ?_, fun hk => ⟨?_, e4⟩⟩⟩
    · intro s H0 C cl fp
      refine we_imp (e5 hk s H0 C cl fp) fun y O4 ⟨e6, e7⟩ => ⟨?_, e7⟩
      subst e6
      rw [hk] at e3
      rw [take_get ha, List.filter_append, List.map_append]
      simp [← e3]
    · rw [hk] at e3
      rw [take_get ha, List.filter_append]
      simp [← e3]
  · subst e1; subst e2
    rw [List.length_map, List.take_length]
    exact he
theorem we_lcF (f g : α → D) (p : α → Bool) {own : List (Str × Nat)} {Q : QD} (hi : WI X F tg iter Γ O fun ds Ke O1 => FilI X scope tg c elt (own.map (·.2)) Γ f g p ds Ke O1 Q) (hN : X.N.Nodup) (ok : BlkOk X.N X.env.scope scope own)
    (hc : X.calm = true := by rfl) (hs : ∀ x, foldedSetIterable iter X.env x = pure x := by intro _; rfl) : WE X F (.ListComp elt [⟨tg, iter, [c], 0⟩] scope pos) Γ O Q :=
  we_lc (wi_imp hi fun ds Ke O1 h => lc_fil h) hN ok hc hs
theorem ws_lcF (i : Nat) (f g : α → D) (p : α → Bool) {own : List (Str × Nat)} {Q : Out} {y : Str} {py spos : Pos} (hi : WI X F tg iter Γ O fun ds Ke O1 => FilI X scope tg c elt (own.map (·.2)) Γ f g p ds Ke O1 fun d O' => Q.nx (Γ.set i (some d)) O') (hN : X.N.Nodup) (ok : BlkOk X.N X.env.scope scope own)
    (hy : X.N[i]? = some y := by rfl) (hyl : X.env.scope.names.lookup y = some .local := by rfl)
    (hsw : swapsWith (.ListComp elt [⟨tg, iter, [c], 0⟩] scope pos) (some (.Name y py)) spos.line X.env = pure true := by exact sw_true rfl rfl rfl (by decide +kernel)) (hc : X.calm = true := by rfl) (hs : ∀ x, foldedSetIterable iter X.env x = pure x := by intro _; rfl) :
    WS X F (.Assign [.Name y py] (.ListComp elt [⟨tg, iter, [c], 0⟩] scope pos) spos) Γ O Q :=
  ws_setLc i (wi_imp hi fun ds Ke O1 h => lc_fil h) hN ok hy hyl hsw hc hs
/-- each item gives one, by a word; the cells change turn by turn -/
def RelI (X : Cx) (scope : Scope) (tg elt : Expr) (vs : List Nat) (Γ : Ga) (f : α → D) (P : α → D → Prop) (Ce : Nat → Ow) (ds : List D) (Ke : Ow → Prop) (O1 : Ow) (Q : QD) : Prop :=
  ∃ ls : List α, ds = ls.map f ∧ (∀ i, Ke (Ce i)) ∧ O1 = Ce 0 ∧ ls.length ≤ 10000000 ∧ (∀ (i : Nat) (a : α), ls[i]? = some a → ∀ F', BlkG X scope F' vs tg (f a) (wipeG Γ vs) (Ce i) fun Γ2 O2 => BlkE X scope F' elt Γ2 O2 fun y O4 => P a y ∧ O4 = Ce (i + 1)) ∧
    ∀ acc, Paired P ls acc → NewL acc (Ce ls.length) Q
theorem paired_app {β : Type} {P : α → β → Prop} : ∀ {xs : List α} {ys : List β} {x : α} {y : β}, Paired P xs ys → P x y → Paired P (xs ++ [x]) (ys ++ [y])
  | _, _, _, _, .nil, h => .cons h .nil
  | _, _, _, _, .cons a r, h => .cons a (paired_app r h)
theorem paired_len {β : Type} {P : α → β → Prop} : ∀ {xs : List α} {ys : List β}, Paired P xs ys → xs.length = ys.length
  | _, _, .nil => rfl
  | _, _, .cons _ r => congrArg (· + 1) (paired_len r)
theorem paired_of {β γ : Type} {P : α → β → Prop} {S : α → γ → Prop} {h : γ → β} (k : ∀ a d, P a d → ∃ b, d = h b ∧ S a b) : ∀ {xs : List α} {ys : List β}, Paired P xs ys → ∃ bs : List γ, ys = bs.map h ∧ Paired S xs bs
  | _, _, .nil => ⟨[], rfl, .nil⟩
  | _, _, .cons a r => by
    obtain ⟨b, e, s⟩ := k _ _ a
    obtain ⟨bs, e2, r2⟩ := paired_of k r
    exact ⟨b :: bs, by rw [e, e2]; rfl, .cons s r2⟩
theorem paired_all {β : Type} {P : α → β → Prop} {S : β → Prop} (k : ∀ a b, P a b → S b) : ∀ {xs : List α} {ys : List β}, Paired P xs ys → ∀ y ∈ ys, S y
  | _, _, .nil => fun y h => nomatch h
  | _, _, .cons a r => fun y h => by
    rcases List.mem_cons.mp h with rfl | h
    · exact k _ _ a
    · exact paired_all k r y h
theorem lc_rel {vs : List Nat} {f : α → D} {P : α → D → Prop} {Ce : Nat → Ow} {ds : List D} {Ke : Ow → Prop} {O1 : Ow} {Q : QD} (h : RelI X scope tg elt vs Γ f P Ce ds Ke O1 Q) : ∃ I : Nat → List D → Ow → Prop, I 0 [] O1 ∧ LcI X scope tg [] elt vs Γ I ds Ke Q := by
  obtain ⟨ls, rfl, hk, rfl, hl, ht, he⟩ := h
  refine ⟨fun i acc O' => i ≤ ls.length ∧ Paired P (ls.take i) acc ∧ O' = Ce i, ⟨Nat.zero_le _, .nil, rfl⟩, fun i acc O' ⟨e0, e1, e2⟩ => ⟨e2 ▸ hk i, ?_⟩, by rw [List.length_map]; exact hl, fun i d acc O' hd ⟨e0, e1, e2⟩ F' => ?_, fun acc O' ⟨e0, e1, e2⟩ => ?_⟩
  · rw [← paired_len e1, List.length_take]
    exact Nat.min_le_left _ _
  · obtain ⟨a, ha, rfl⟩ := map_get hd
    subst e2
    intro s H0 C cl fp
    refine pg_weak (ht i a ha F' s H0 C cl fp) fun v σ H R ⟨h1, h2, h3⟩ => ⟨h1, h2, fun Γ' O2 σ' H' q => h3 Γ' O2 σ' H' ?_⟩
    refine bt_nil ⟨fun _ => ?_, fun e => nomatch e⟩
    intro s H0 C cl fp
    refine we_imp (q s H0 C cl fp) fun y O4 ⟨e3, e4⟩ => ⟨(List.getElem?_eq_some_iff.mp ha).1, ?_, e4⟩
    rw [take_get ha]
    exact paired_app e1 e3
  · rw [List.length_map] at e1 e2
    rw [List.take_length] at e1
    subst e2
    exact he acc e1
theorem we_lcR (f : α → D) (P : α → D → Prop) (Ce : Nat → Ow) {own : List (Str × Nat)} {Q : QD} (hi : WI X F tg iter Γ O fun ds Ke O1 => RelI X scope tg elt (own.map (·.2)) Γ f P Ce ds Ke O1 Q) (hN : X.N.Nodup) (ok : BlkOk X.N X.env.scope scope own)
    (hc : X.calm = true := by rfl) (hs : ∀ x, foldedSetIterable iter X.env x = pure x := by intro _; rfl) : WE X F (.ListComp elt [⟨tg, iter, [], 0⟩] scope pos) Γ O Q :=
  we_lc (wi_imp hi fun ds Ke O1 h => lc_rel h) hN ok hc hs
theorem ws_lcR (i : Nat) (f : α → D) (P : α → D → Prop) (Ce : Nat → Ow) {own : List (Str × Nat)} {Q : Out} {y : Str} {py spos : Pos} (hi : WI X F tg iter Γ O fun ds Ke O1 => RelI X scope tg elt (own.map (·.2)) Γ f P Ce ds Ke O1 fun d O' => Q.nx (Γ.set i (some d)) O') (hN : X.N.Nodup) (ok : BlkOk X.N X.env.scope scope own)
    (hy : X.N[i]? = some y := by rfl) (hyl : X.env.scope.names.lookup y = some .local := by rfl)
    (hsw : swapsWith (.ListComp elt [⟨tg, iter, [], 0⟩] scope pos) (some (.Name y py)) spos.line X.env = pure true := by exact sw_true rfl rfl rfl (by decide +kernel)) (hc : X.calm = true := by rfl) (hs : ∀ x, foldedSetIterable iter X.env x = pure x := by intro _; rfl) :
    WS X F (.Assign [.Name y py] (.ListComp elt [⟨tg, iter, [], 0⟩] scope pos) spos) Γ O Q :=
  ws_setLc i (wi_imp hi fun ds Ke O1 h => lc_rel h) hN ok hy hyl hsw hc hs
end

/-! ### leaves -/
section
variable {X : Cx} {F : Fx} {Γ : Ga} {O : Ow} {Q : QD} {x : D} {l : List Nat} {ds : List D}
theorem ln_S (hz : l.length ≤ sizeLine) (q : Q (.int l.length) O) : ∃ n : Nat, LenD (.str l) O n ∧ Q (.int n) O := ⟨_, .inl ⟨l, rfl, hz, rfl⟩, q⟩
theorem ln_L (w : Vw x O (.lst ds)) (q : Q (.int ds.length) O) : ∃ n : Nat, LenD x O n ∧ Q (.int n) O := ⟨_, .inr (.inl ⟨ds, w, rfl⟩), q⟩
theorem ln_T (q : Q (.int ds.length) O) : ∃ n : Nat, LenD (.tup ds) O n ∧ Q (.int n) O := ⟨_, .inr (.inr (.inl ⟨ds, rfl, rfl⟩)), q⟩
theorem ln_R (q : Q (.int ds.length) O) : ∃ n : Nat, LenD (.rl ds) O n ∧ Q (.int n) O := ⟨_, .inr (.inr (.inr ⟨ds, rfl, rfl⟩)), q⟩
theorem isi_s {x y : D} {T n : String} (r : Bool) (w : Vw x O y) (q : Q (.bl r) O) (h : tyName y = some T := by rfl) (hk : kitB T n = some r := by decide +kernel) : ∃ r, IsiOk X F x (.ty n) O r ∧ Q (.bl r) O := ⟨r, isi_of w h hk, q⟩
end
end Dl
namespace Dl
open PySem PySem.Spec PyProof.Rows L2
section
variable {X : Cx} {F : Fx} {Γ : Ga} {O : Ow} {Q : QD} {α : Type} {ls : List α} {p : α → Bool}
theorem all_map_id {α : Type} (p : α → Bool) : ∀ ls : List α, (ls.map p).all id = ls.all p
  | [] => rfl
  | a :: r => by rw [List.map_cons, List.all_cons, List.all_cons, all_map_id p r]; rfl
theorem any_map_id {α : Type} (p : α → Bool) : ∀ ls : List α, (ls.map p).any id = ls.any p
  | [] => rfl
  | a :: r => by rw [List.map_cons, List.any_cons, List.any_cons, any_map_id p r]; rfl
theorem vwB : Vw (.lst (ls.map fun a => D.bl (p a))) O (.lst ((ls.map p).map D.bl)) := by rw [List.map_map]; exact Vw.self
theorem al_M (q : Q (.bl (ls.all p)) O) : ∃ bs : List Bool, Vw (.lst (ls.map fun a => D.bl (p a))) O (.lst (bs.map D.bl)) ∧ Q (.bl (bs.all id)) O := ⟨ls.map p, by rw [List.map_map]; exact Vw.self, by rw [all_map_id]; exact q⟩
theorem an_M (q : Q (.bl (ls.any p)) O) : ∃ bs : List Bool, Vw (.lst (ls.map fun a => D.bl (p a))) O (.lst (bs.map D.bl)) ∧ Q (.bl (bs.any id)) O := ⟨ls.map p, by rw [List.map_map]; exact Vw.self, by rw [any_map_id]; exact q⟩
end
end Dl

namespace Dl
open PySem PySem.Spec PyProof.Rows L2

/-! ### isinstance with a tuple of classes -/
section
variable {X : Cx} {F : Fx} {Γ : Ga} {O : Ow} {Q : QD} {a b : Expr} {pos p : Pos}
def kitAnyB (T : String) : List String → Option Bool
  | [] => some false
  | c :: r => match kitB T c with
    | some true => some true
    | some false => kitAnyB T r
    | none => none
theorem kitAny_ty {K : PySem.W.Frag} {T : String} : ∀ {ns : List String} {r : Bool}, kitAnyB T ns = some r → PySem.W.kitAny K (.type T) (ns.map Value.type) = some r
  | [], r, h => h
  | c :: cs, r, h => by
    unfold kitAnyB at h
    cases q : kitB T c with
    | none => rw [q] at h; cases h
    | some k =>
      rw [q] at h
      cases k with
      | true =>
        refine kitAny_cons (kit_ty q) (fun e => nomatch e) fun _ => ?_
        cases h
        rfl
      | false => exact kitAny_cons (kit_ty q) (fun _ => kitAny_ty h) (fun e => nomatch e)
def IsiTk (X : Cx) (F : Fx) (x : D) (ts : List D) (O : Ow) (r : Bool) : Prop := ∃ t us, Paired ClsD ts us ∧ (∀ H v, OwsOk X.K F O H → Rep X.K (stb F O H) v x → TyX X.K H v t) ∧ PySem.W.kitAny X.K t us = some r
theorem clsd_tys : ∀ ns : List String, Paired ClsD (ns.map D.ty) (ns.map Value.type)
  | [] => .nil
  | n :: r => .cons (.ty n) (clsd_tys r)
theorem isiT_of {x y : D} {T : String} (ns : List String) {r : Bool} (w : Vw x O y) (h : tyName y = some T) (hk : kitAnyB T ns = some r) : IsiTk X F x (ns.map D.ty) O r :=
  ⟨.type T, ns.map Value.type, clsd_tys ns, fun H v os rv => tyx_of h (w.rep os rv), kitAny_ty hk⟩
theorem clsv_all {K : PySem.W.Frag} {H : Hp} : ∀ {ts : List D} {us : List Value} {vs : List V}, Paired ClsD ts us → Reps K H vs ts → Paired ClsV vs us
  | _, _, _, .nil, .nil => .nil
  | _, _, _, .cons c k, .cons r t => .cons (c.v r) (clsv_all k t)
theorem call_isiA : CallR X (.builtin "isinstance") (fun xs H Q => rIsiT X.K xs H Q ∨ rIsiK X.K xs H Q) := by
  intro pins s σ H xs us Q I r h
  rcases h with h | h
  · exact call_isiT pins s σ H xs us Q I r h
  · exact call_isiK pins s σ H xs us Q I r h
theorem we_isiT (hm : X.mg "isinstance" = none) (h : WE X F a Γ O fun x O1 => WE X F b Γ O1 fun c O2 => ∃ r ts, c = .tup ts ∧ IsiTk X F x ts O2 r ∧ Q (.bl r) O2) (hg : Gl X "isinstance" := by rfl)
    (he : starEach (a :: [b]) X.env = (false, eval a X.env) :: starEach [b] X.env := by rfl) (he2 : starEach (b :: []) X.env = (false, eval b X.env) :: starEach [] X.env := by rfl) (hpl : (backTo pos (starEach [b] X.env)).any (·.1) = false := by rfl) :
    WE X F (.Call (.Name "isinstance" p) [a, b] [] pos) Γ O Q :=
  we_cal (fun ha => pe_callB call_isiA hg hm (by decide +kernel) ha (by decide) (by decide) he hpl) (wa_cons (we_imp h fun x O1 h => wa_cons (we_imp h fun c O2 ⟨r, ts, ec, ⟨t, us, hc, ht, hk⟩, q⟩ => wa_nil fun σ H vs R hd hv k => by
    subst ec
    cases hv with
    | cons hv hn =>
      cases hn with
      | cons hu hn =>
        cases hn
        have fin := k _ O2 _ H q hd same_refl (.bl r)
        cases hu with
        | @tup tp xs _ h1 h2 =>
          have hcv := clsv_all hc h2
          rcases h1 with h1 | ⟨o, its, n, k1, k2, k3, _, k5⟩
          · exact .inl ⟨_, tp, xs, t, us, r, rfl, (hide_some h1).2, hcv, ht H _ hd.os hv, hk, fin⟩
          · have e5 : its.toList = us := ClsV.all hcv k5
            obtain ⟨oc, od, dt, sl⟩ := o
            simp only at k2 k3
            subst k2 k3
            refine .inr ⟨_, tp, od, us, n, sl, t, r, rfl, ?_, ht H _ hd.os hv, hk, fin⟩
            rw [k1, ← e5]) he2) he)
end
end Dl

namespace Dl
open PySem PySem.Spec PyProof.Rows L2

/-! ### keywords -/
section
variable {X : Cx} {F : Fx} {Γ : Ga} {O : Ow} {Q : QD} {e : Expr} {es : List Expr} {kws : List Keyword} {pos p kpos : Pos} {nm : Option Str}
def WK (X : Cx) (F : Fx) (kws : List Keyword) (Γ : Ga) (O : Ow) (Q : List D → Ow → Prop) : Prop := PK X kws (tA X.K F Γ O Q)
theorem pk_weak {t u : TA} (h : PK X kws t) (k : ∀ σ H R, u σ H R → t σ H R) : PK X kws u := ⟨fun pos pins s σ H Q I q => h.run pos pins s σ H Q I (k _ _ _ q)⟩
def tAnyK (X : Cx) (kws : List Keyword) : TA := fun σ H R => ∃ t, PK X kws t ∧ t σ H R
theorem pk_any : PK X kws (tAnyK X kws) := ⟨fun pos pins s σ H Q I ⟨t, p, q⟩ => p.run pos pins s σ H Q I q⟩
theorem wk_nil {Q : List D → Ow → Prop} (q : Q [] O) : WK X F [] Γ O Q := pk_weak pk_nil fun σ H R ⟨hd, k⟩ => k [] O [] H q hd same_refl .nil
theorem wk_run {Q : List D → Ow → Prop} {σ : L2.St} {H : Hp} {R : List V → Hp → Prop} (h : WK X F kws Γ O Q) (h1 : Hd X.K F Γ O σ H) (k : ∀ ds O' vs H', Q ds O' → Hd X.K F Γ O' σ H' → Same (hide (ads O) H) (hide (ads O') H') → Reps X.K (stb F O' H') vs ds → R vs H') : tAnyK X kws σ H R :=
  ⟨_, h, h1, k⟩
theorem wk_cons {Q : List D → Ow → Prop} (h : WE X F e Γ O fun x O1 => WK X F kws Γ O1 fun xs O2 => Q (x :: xs) O2) : WK X F (⟨nm, e, kpos⟩ :: kws) Γ O Q :=
  pk_weak (pk_cons h (pk_any (kws := kws))) fun σ H R ⟨hd, k⟩ => ⟨hd, fun d1 O1 v1 H1 q1 hd1 s1 r1 => wk_run q1 hd1 fun d2 O2 v2 H2 q2 hd2 s2 r2 =>
    k _ O2 _ H2 q2 hd2 (s1.trans s2) (.cons (r1.mono (ss s2)) r2)⟩
/-- positional values, then the keywords' in the parameters' order -/
theorem kbn_of {K : PySem.W.Frag} {x qual : Str} {st : Stmt} {f : Addr} {fd : FuncData} {ps : List Str} (Fn : Fun K x qual st f fd) (n : Nat) (ks : List Str)
    (h : ∀ (kV doc pm : Value) (an : Option Addr) (cdv ct : Value) (us ws : List Value), us.length = n → ws.length = ks.length → bindArgs (PySem.W.fnOf x qual (defArgs st) (defBody st) (defScope st) .none kV doc pm an cdv ct) ⟨us, ks.zip ws⟩ = pure (ps.zip (us ++ ws))) :
    KBn K fd ps n ks (fun us ws => us ++ ws) (fun us ws => us ++ ws) := by
  obtain ⟨oc, od, kV, doc, pm, an, cdv, ct, osl, rfl, lk, hcd⟩ := Fn.ex
  exact ⟨fun s us ws _ l1 l2 => .of_eq (h kV doc pm an cdv ct us ws l1 l2), fun r1 r2 => r1.append r2⟩
variable {CX : CXT} {k n : Nat} {g C : Addr} {fd : FuncData} {ps ks : List Str} {PP : PD} {E : XK} {xc : Str}
theorem we_makeK0 (M : Mk X.K C g) (Fo : FnOk X.prog X.w X.K X.mg X.base CX k g fd ps (spD X.K PP)) (hr : Room (k + 1) X.A) (hm : X.mg xc = some (.ref C)) (hb : KBn X.K fd ps 1 ks (fun us ws => us ++ ws) (fun us ws => us ++ ws)) (hx : Passes CX X E)
    (h : WK X F kws Γ O fun ds O1 => ds.length = ks.length ∧ ∀ a, a ∉ ads O1 → CallD PP (.at a :: ds) ((a, .ins C []) :: O1) (NewI C a Q))
    (hg : Gl X xc := by rfl) (hall : (backToKw pos (keywordEach kws X.env)).all (·.1.isSome) = true := by rfl) (hks : (backToKw pos (keywordEach kws X.env)).filterMap (·.1) = ks := by rfl) (hdb : (xc == ("__debug__" : Str)) = false := by decide)
    (hpl : ((backTo pos (starEach [] X.env)).any (·.1) || (backToKw pos (keywordEach kws X.env)).any (·.1.isNone)) = false := by rfl) : WE X F (.Call (.Name xc p) [] kws pos) Γ O Q :=
  we_of (pe_makeK0 M Fo hr hg hm hb hx h hall hks hdb hpl) fun σ H R hd kk => ⟨hd, fun ds O1 vs H1 ⟨hl, q1⟩ hd1 s1 r1 => ⟨rfl, r1.length.trans hl, fun a dx ha hdx hne =>
    made_run hd1 r1 ha hdx hne (q1 a) fun d O' v H' q hd' s' r' => kk d O' v H' q hd' (s1.trans s') r'⟩⟩
theorem we_makeK (M : Mk X.K C g) (Fo : FnOk X.prog X.w X.K X.mg X.base CX k g fd ps (spD X.K PP)) (hr : Room (k + 1) X.A) (hm : X.mg xc = some (.ref C)) (hb : KBn X.K fd ps (n + 1) ks (fun us ws => us ++ ws) (fun us ws => us ++ ws)) (hx : Passes CX X E)
    (h : WA X F (e :: es) Γ O fun ds O1 => WK X F kws Γ O1 fun ws O2 => ds.length = n ∧ ws.length = ks.length ∧ ∀ a, a ∉ ads O2 → CallD PP (.at a :: (ds ++ ws)) ((a, .ins C []) :: O2) (NewI C a Q))
    (hg : Gl X xc := by rfl) (hall : (backToKw pos (keywordEach kws X.env)).all (·.1.isSome) = true := by rfl) (hks : (backToKw pos (keywordEach kws X.env)).filterMap (·.1) = ks := by rfl) (hdb : (xc == ("__debug__" : Str)) = false := by decide)
    (he : starEach (e :: es) X.env = (false, eval e X.env) :: starEach es X.env := by rfl)
    (hpl : ((backTo pos (starEach (e :: es) X.env)).any (·.1) || (backToKw pos (keywordEach kws X.env)).any (·.1.isNone)) = false := by rfl) : WE X F (.Call (.Name xc p) (e :: es) kws pos) Γ O Q :=
  we_of (pe_makeK M Fo hr hg hm hb hx h (pk_any (kws := kws)) hall hks hdb he hpl) fun σ H R hd kk => ⟨hd, fun ds O1 vs H1 q1 hd1 s1 r1 => wk_run q1 hd1 fun ws O2 us H2 ⟨hn, hl, q2⟩ hd2 s2 r2 => ⟨r1.length.trans hn, r2.length.trans hl, fun a dx ha hdx hne =>
    made_run hd2 ((r1.mono (ss s2)).append r2) ha hdx hne (q2 a) fun d O' v H' q hd' s' r' => kk d O' v H' q hd' (s1.trans (s2.trans s')) r'⟩⟩
end
/-- behind an expression: the foremost cell is no longer looked at -/
theorem we_drop {X : Cx} {F : Fx} {Γ : Ga} {O : Ow} {Q : QD} {e : Expr} (h : WE X F e Γ O fun d O' => ∃ p c O2, O' = (p, c) :: O2 ∧ Q d O2) : WE X F e Γ O Q :=
  pe_weak h fun σ H R ⟨hd, kk⟩ => ⟨hd, fun d O' v H' ⟨p, c, O2, e, q⟩ hd' s' r' => by
    subst e
    obtain ⟨h1, h2, _, _⟩ := hd'.drop
    exact kk d O2 v H' q h1 (s'.trans h2) (r'.mono (ss h2))⟩
section
variable {X : Cx} {F : Fx} {Γ : Ga} {O : Ow} {Q : Out} {sts : List Stmt}
/-- the foremost cell is no longer looked at -/
theorem wb_drop {p : Addr} {c : OC} (h : WB X F sts Γ O Q) : WB X F sts Γ ((p, c) :: O) Q := wb_see h fun σ H hd => by
  obtain ⟨h1, h2, _, _⟩ := hd.drop
  exact ⟨h1, h2⟩
end
end Dl

/-! ### the head's hook: defs at any path, any check of the written part -/
namespace Dl
open PySem PySem.Spec PyProof.Rows L2 He

/-- a def: the path to it, its names, its statement, its defaults -/
structure DX where
  ad : PySem.W.Frag → Addr
  name : Str
  qual : Str
  st : Stmt
  dfl : List Dv := []
def fnY (K : PySem.W.Frag) (a : Addr) : FnW := match K.lookup a with
  | some ⟨_, _, .func fd, _⟩ => some (fd.name, fd.qualname, fd.params, fd.body, fd.scope, fd.globals, fd.closure, fd.builtins)
  | _ => none
def DX.val (d : DX) : FnW := some (d.name, d.qual, defArgs d.st, .stmts (defBody d.st), defScope d.st, mainGlobals, [], builtinsNs)
def DX.ok (K : PySem.W.Frag) (d : DX) : Bool := PySem.W.keepIn K (.ref (d.ad K)) && (match K.lookup (d.ad K) with
  | some ⟨_, _, .func fd, _⟩ => PySem.W.codeIn K fd.code d.qual && dflB K fd.defaults (d.dfl.map (Dv.v K))
  | _ => false)
theorem DX.funD {K : PySem.W.Frag} {d : DX} (e : fnY K (d.ad K) = d.val) (c : d.ok K = true) : ∃ fd, FunD K d.name d.qual (defArgs d.st) (defBody d.st) (defScope d.st) (d.dfl.map (Dv.v K)) [] (d.ad K) fd := by
  obtain ⟨kp, c2⟩ := ba c
  unfold fnY at e
  cases q : K.lookup (d.ad K) with
  | none => rw [q] at c2; cases c2
  | some o =>
    obtain ⟨oc, od, dt, osl⟩ := o
    rw [q] at c2 e
    cases dt with
    | func fd =>
      obtain ⟨n1, n2, n3, n4, n5, n6, n7, n8, n9, n10, n11, n12, n13, n14, n15⟩ := fd
      have e2 : (some (n1, n2, n3, n4, n5, n6, n7, n15) : FnW) = some (d.name, d.qual, defArgs d.st, .stmts (defBody d.st), defScope d.st, mainGlobals, [], builtinsNs) := e
      simp only [Option.some.injEq, Prod.mk.injEq] at e2
      obtain ⟨h1, h2, h3, h4, h5, h6, h7, h8⟩ := e2
      subst h1 h2 h3 h4 h5 h6 h7 h8
      obtain ⟨k1, k3⟩ := ba (show (PySem.W.codeIn K n13 d.qual && dflB K n8 (d.dfl.map (Dv.v K))) = true from c2)
      exact ⟨_, ⟨oc, od, n8, n9, n10, n11, n12, n13, n14, osl, rfl, q, k1, dflB_ok k3, .inl rfl⟩, kp⟩
    | _ => cases c2
theorem fun_ofD {K : PySem.W.Frag} {x qual : Str} {st : Stmt} {f : Addr} {fd : FuncData} (F : FunD K x qual (defArgs st) (defBody st) (defScope st) [] [] f fd) : Fun K x qual st f fd := by
  obtain ⟨oc, od, dV, kV, doc, pm, an, cdv, ct, osl, rfl, lk, hcd, hD, hK⟩ := F.ex
  rcases hD with ⟨_, rfl⟩ | ⟨e, _⟩
  · exact ⟨⟨oc, od, kV, doc, pm, an, cdv, ct, osl, rfl, lk, hcd⟩, F.kp⟩
  · exact absurd rfl e
abbrev AlX : Type := Bool × List FnW
def obsX (ck : PySem.W.Frag → Bool) (fn : List DX) (K : PySem.W.Frag) : AlX := (ck K && fn.all fun d => d.ok K, fn.map fun d => fnY K (d.ad K))
def valX (fn : List DX) : AlX := (true, fn.map DX.val)
def SaysX (ck : PySem.W.Frag → Bool) (fn : List DX) (K : PySem.W.Frag) : Prop := obsX ck fn K = valX fn
def obsXG (n : Nat) (ck : PySem.W.Frag → Bool) (fn : List DX) (g : Addr → Option Obj) : AlX := obsX ck fn (frG g (asD g n))
def hookX (n : Nat) (ck : PySem.W.Frag → Bool) (fn : List DX) : PySem.W.Hook where
  α := AlX
  obs := fun s => obsXG n ck fn s.heap.get?
  val := fun _ => valX fn
  says := fun _ h => ∃ K : PySem.W.Frag, K.In h ∧ SaysX ck fn K
  of := fun _ _ e => ⟨_, frG_in, e⟩
  keeps := fun _ _ _ ⟨K, hK, c⟩ k => ⟨K, PySem.W.Frag.In.keeps hK k, c⟩
theorem obsXG_eq {n : Nat} {ck : PySem.W.Frag → Bool} {fn : List DX} {g : Addr → Option Obj} {s : Shared} (h : ∀ a, g a = s.heap.get? a) : obsXG n ck fn g = (hookX n ck fn).obs s := by
  have e : g = s.heap.get? := funext h
  rw [e] <;> rfl
section
variable {ck : PySem.W.Frag → Bool} {fn : List DX} {K : PySem.W.Frag}
theorem SaysX.ck_ (c : SaysX ck fn K) : ck K = true := (ba (show (ck K && fn.all fun d => d.ok K) = true from congrArg (fun z : AlX => z.1) c)).1
theorem SaysX.defD (c : SaysX ck fn K) (i : Nat) {d : DX} (h : fn[i]? = some d := by rfl) : ∃ fd, FunD K d.name d.qual (defArgs d.st) (defBody d.st) (defScope d.st) (d.dfl.map (Dv.v K)) [] (d.ad K) fd := by
  have c2 := (ba (show (ck K && fn.all fun d => d.ok K) = true from congrArg (fun z : AlX => z.1) c)).2
  have e : fn.map (fun d => fnY K (d.ad K)) = fn.map DX.val := congrArg (fun z : AlX => z.2) c
  have e2 : (fn.map fun d => fnY K (d.ad K))[i]? = (fn.map DX.val)[i]? := by rw [e]
  rw [List.getElem?_map, List.getElem?_map, h] at e2
  exact DX.funD (Option.some.inj e2) (List.all_eq_true.mp c2 d (List.mem_of_getElem? h))
end
/-- the getter of a property -/
def getAt (K : PySem.W.Frag) (C : Addr) (m : Str) : Addr := match PySem.W.recIn K (ma K C m) "property" with
  | some (.ref g :: _) => g
  | _ => 0
/-! checks of the written part -/
def eqB (a b : Option Bool) : Bool := a == b
/-- what isinstance asks -/
def ckIns (K : PySem.W.Frag) (C : Addr) : Bool := eqO (PySem.W.findIn K (.ref C) "__class__") (some (some (.builtin "object.__class__"))) &&
  (eqO (PySem.W.specialIn K (.builtin "object.__class__") "__get__") (some (some (.builtin "getset_descriptor.__get__"))) && (PySem.W.takesIn K (.builtin "object.__class__") == some true && PySem.W.mroIn K C (.type "object") == some true))
theorem ckIns_ok {K : PySem.W.Frag} {C : Addr} (cl : Cls K C) (h : ckIns K C = true) : InsTy K C := by
  obtain ⟨h1, h⟩ := ba h
  obtain ⟨h2, h⟩ := ba h
  obtain ⟨h3, h4⟩ := ba h
  exact ⟨cl, eqO_ok h1, eqO_ok h2, eq_of_beq h3, eq_of_beq h4⟩
def ckOwn (K : PySem.W.Frag) (C : Addr) (m : Str) : Bool := eqO (PySem.W.findIn K (.ref C) m) (some (some (.ref (ma K C m)))) && (PySem.W.isFn K (.ref (ma K C m)) && PySem.W.fnIn K (ma K C m))
theorem ckOwn_ok {K : PySem.W.Frag} {C : Addr} {m : Str} (h : ckOwn K C m = true) : OwnM K C m (ma K C m) := by
  obtain ⟨h1, h⟩ := ba h
  obtain ⟨h2, h3⟩ := ba h
  exact ⟨eqO_ok h1, h2, h3⟩
def isRefHd (v : Value) : Option (List Value) → Bool
  | some (u :: _) => u == v
  | _ => false
def ckProp (K : PySem.W.Frag) (C : Addr) (m : Str) : Bool := eqO (PySem.W.findIn K (.ref C) m) (some (some (.ref (ma K C m)))) && (eqO (PySem.W.specialIn K (.ref (ma K C m)) "__get__") (some (some (.builtin "property.__get__"))) &&
  (PySem.W.takesIn K (.ref (ma K C m)) == some true && isRefHd (.ref (getAt K C m)) (PySem.W.recIn K (ma K C m) "property")))
theorem ckProp_ok {K : PySem.W.Frag} {C : Addr} {m : Str} (h : ckProp K C m = true) : PropOf K C m (ma K C m) (getAt K C m) := by
  obtain ⟨h1, h⟩ := ba h
  obtain ⟨h2, h⟩ := ba h
  obtain ⟨h3, h4⟩ := ba h
  refine ⟨eqO_ok h1, eqO_ok h2, eq_of_beq h3, ?_⟩
  generalize PySem.W.recIn K (ma K C m) "property" = o at h4
  cases o with
  | none => cases h4
  | some l =>
    cases l with
    | nil => cases h4
    | cons u r =>
      have e : u = .ref (getAt K C m) := eq_of_beq h4
      exact ⟨r, by rw [e]⟩
def isNoneRef : Option (Option Value) → Bool
  | some none => true
  | some (some (.ref _)) => true
  | _ => false
def ckBinT (K : PySem.W.Frag) (C : Addr) (op : Operator) (T : String) : Bool := PySem.W.selfFirst K C && (isNoneRef (PySem.W.findIn K (.ref C) (dunderR op.info.2)) &&
  ((PySem.W.findIn K (.type T) (PySem.dunder op.info.2)).isSome && ((PySem.W.findIn K (.type T) (dunderR op.info.2)).isSome && PySem.W.subIn K (.type T) (.ref C) == some false)))
theorem ckBinT_ok {K : PySem.W.Frag} {C : Addr} {op : Operator} {T : String} (h : ckBinT K C op T = true) : BinT K C op T := by
  obtain ⟨h1, h⟩ := ba h
  obtain ⟨h2, h⟩ := ba h
  obtain ⟨h3, h⟩ := ba h
  obtain ⟨h4, h5⟩ := ba h
  refine ⟨h1, ?_, Option.isSome_iff_exists.mp h3, Option.isSome_iff_exists.mp h4, eq_of_beq h5⟩
  generalize PySem.W.findIn K (.ref C) (dunderR op.info.2) = o at h2
  cases o with
  | none => cases h2
  | some v =>
    cases v with
    | none => exact ⟨none, rfl, .inl rfl⟩
    | some u =>
      cases u with
      | ref g => exact ⟨some (.ref g), rfl, .inr ⟨g, rfl⟩⟩
      | _ => cases h2
def ckCall (K : PySem.W.Frag) (C : Addr) : Bool := ckOwn K C "__call__"
theorem ckCall_ok {K : PySem.W.Frag} {C : Addr} (h : ckCall K C = true) : StX.CallO K C (ma K C "__call__") := by
  obtain ⟨h1, h2, h3⟩ := ckOwn_ok h
  exact ⟨h1, h2, h3⟩
end Dl
namespace Dl
open PySem PySem.Spec PyProof.Rows L2 He
/-- the script, as the law's walk takes it -/
theorem sp_script {K : PySem.W.Frag} {PP : PD} {H : Hp} {a : Addr} {ns : List Int} {E : XK} (hS : SqL K H a (ns.map V.int)) (h : PP [.rl (ns.map D.int)] [] fun d _ => d = .bl true) : spD K PP [.ref a] H (fun v _ => v = .bl true) E := by
  have e : stb ⟨H, ads [], []⟩ [] H = H := by
    show hide ([] ++ ads []) H = H
    exact hide_nil H
  refine ⟨_, [], [], _, (fun z hz => nomatch hz), ?_, OwsOk.nil, h, fun d O' v H' ed _ _ r => ?_⟩
  · rw [e]
    exact .cons (.rl hS (reps_ints ns)) .nil
  · subst ed
    cases r
    rfl
end Dl

namespace Dl
open PySem PySem.Spec PyProof.Rows L2

/-! ### several targets -/
section
variable {X : Cx} {F : Fx} {Γ : Ga} {O : Ow} {tg : Expr} {tgs : List Expr} {pos : Pos} {vs : List Nat} {Qg : Ga → Ow → Prop}
def tGsd (K : PySem.W.Frag) (F : Fx) (vs : List Nat) (ds : List D) (Γ : Ga) (O : Ow) (Q : Ga → Ow → Prop) : TGs := fun xs σ H R => Hd K F Γ O σ H ∧ Reps K (stb F O H) xs ds ∧
  ∀ Γ' O' σ' H', Q Γ' O' → Hd K F Γ' O' σ' H' → Same (hide (ads O) H) (hide (ads O') H') → ((∀ i, i ∉ vs → σ'[i]? = σ[i]?) ∧ σ'.length = σ.length) → R σ' H'
def WGs (X : Cx) (F : Fx) (vs : List Nat) (tgs : List Expr) (ds : List D) (Γ : Ga) (O : Ow) (Q : Ga → Ow → Prop) : Prop := PGs X tgs (tGsd X.K F vs ds Γ O Q)
def tAnyGs (X : Cx) (tgs : List Expr) : TGs := fun xs σ H R => ∃ t, PGs X tgs t ∧ t xs σ H R
theorem pgs_weak {t u : TGs} (h : PGs X tgs t) (k : ∀ v σ H R, u v σ H R → t v σ H R) : PGs X tgs u := ⟨fun pins s σ H v w Q I r q => h.run pins s σ H v w Q I r (k _ _ _ _ q)⟩
theorem pgs_any : PGs X tgs (tAnyGs X tgs) := ⟨fun pins s σ H v w Q I r ⟨t, p, q⟩ => p.run pins s σ H v w Q I r q⟩
theorem wgs_nil (q : Qg Γ O) : WGs X F vs [] [] Γ O Qg := pgs_weak pgs_nil fun xs σ H R ⟨hd, r, k⟩ => by
  cases r
  exact ⟨rfl, k _ _ _ _ q hd same_refl ⟨fun _ _ => rfl, rfl⟩⟩
theorem wgs_cons {d : D} {ds : List D} (h : WG X F vs tg d Γ O fun Γ1 O1 => WGs X F vs tgs ds Γ1 O1 Qg) (hs : (assignEach (tg :: tgs) X.env).map (·.2) = assign tg X.env :: (assignEach tgs X.env).map (·.2) := by rfl) : WGs X F vs (tg :: tgs) (d :: ds) Γ O Qg :=
  pgs_weak (pgs_cons h (pgs_any (tgs := tgs)) hs) fun xs σ H R ⟨hd, r, k⟩ => by
    cases r with
    | cons r1 r2 => exact ⟨_, _, rfl, hd, r1, fun Γ1 O1 σ1 H1 q1 hd1 s1 e1 => ⟨_, q1, hd1, r2.mono (ss s1), fun Γ2 O2 σ2 H2 q2 hd2 s2 e2 => k Γ2 O2 σ2 H2 q2 hd2 (s1.trans s2) ⟨fun i hi => (e2.1 i hi).trans (e1.1 i hi), e2.2.trans e1.2⟩⟩⟩
theorem wg_tupN {kk : Nat} {ds : List D} (h : WGs X F vs tgs ds Γ O Qg) (hl : tgs.length = ds.length := by rfl) (hc : X.calm = true := by rfl)
    (hn : (assignEach tgs X.env).length = tgs.length := by rfl) (hst : (assignEach tgs X.env).findIdx? (·.1) = none := by rfl) : WG X F vs (.Tuple tgs kk pos) (.tup ds) Γ O Qg :=
  pg_weak (pg_tup (n := tgs.length) hc h hn hst) fun v σ H R ⟨hd, r, k⟩ => by
    cases r with
    | @tup a xs _ h1 h2 => exact ⟨a, xs, rfl, (h1.mono stb_same).sq, h2.length.trans hl.symm, hd, h2, k⟩
theorem wg_unl {kk : Nat} {d : D} {ds : List D} (w : Vw d O (.lst ds)) (h : WGs X F vs tgs ds Γ O Qg) (hl : tgs.length = ds.length := by rfl) (hc : X.calm = true := by rfl)
    (hn : (assignEach tgs X.env).length = tgs.length := by rfl) (hst : (assignEach tgs X.env).findIdx? (·.1) = none := by rfl) : WG X F vs (.Tuple tgs kk pos) d Γ O Qg :=
  pg_weak (pg_unl (n := tgs.length) hc h hn hst) fun v σ H R ⟨hd, r, k⟩ => by
    obtain ⟨p, xs, rfl, h1, h2⟩ := w.lst hd.os r
    exact ⟨p, xs, rfl, SqL.of h1, h2.length.trans hl.symm, hd, h2, k⟩
end

/-! ### three at a time -/
section
variable {X : Cx} {F : Fx} {Γ : Ga} {O : Ow} {Q : Out} {a b c : Expr} {pos : Pos}
theorem ws_par3 (i j l : Nat) {x y z : Str} {px py pz pt : Pos} {kt k2 pt2} (h : WE X F a Γ O fun d1 O1 => WE X F b Γ O1 fun d2 O2 => WE X F c Γ O2 fun d3 O3 => Q.nx (((Γ.set i (some d1)).set j (some d2)).set l (some d3)) O3) (hN : X.N.Nodup) (hij : i ≠ j := by decide) (hil : i ≠ l := by decide) (hjl : j ≠ l := by decide)
    (hi : X.N[i]? = some x := by rfl) (hj : X.N[j]? = some y := by rfl) (hl : X.N[l]? = some z := by rfl) (hx : X.env.scope.names.lookup x = some .local := by rfl) (hy : X.env.scope.names.lookup y = some .local := by rfl) (hz : X.env.scope.names.lookup z = some .local := by rfl) (hc : X.calm = true := by rfl)
    (hw : swappedStores [.Tuple [.Name x px, .Name y py, .Name z pz] kt pt] (.Tuple [a, b, c] k2 pt2) X.env = pure (some [x, y, z]) := by rfl)
    (hs : swapsWithSole [.Tuple [.Name x px, .Name y py, .Name z pz] kt pt] (.Tuple [a, b, c] k2 pt2) pos.line X.env = pure false := by rfl)
    (he : starEach (a :: [b, c]) X.env = (false, eval a X.env) :: starEach [b, c] X.env := by rfl) (he2 : starEach (b :: [c]) X.env = (false, eval b X.env) :: starEach [c] X.env := by rfl) (he3 : starEach (c :: []) X.env = (false, eval c X.env) :: starEach [] X.env := by rfl) :
    WS X F (.Assign [.Tuple [.Name x px, .Name y py, .Name z pz] kt pt] (.Tuple [a, b, c] k2 pt2) pos) Γ O Q :=
  ps_weak (ps_par3 (i := i) (j := j) (l := l) hc hN hi hj hl hij hil hjl hx hy hz (show PA X [a, b, c] (tA X.K F Γ O fun ds O3 => ∃ d1 d2 d3, ds = [d1, d2, d3] ∧ Q.nx (((Γ.set i (some d1)).set j (some d2)).set l (some d3)) O3) from
    wa_cons (we_imp h fun d1 O1 h => wa_cons (we_imp h fun d2 O2 h => wa_cons (we_imp h fun d3 O3 q => wa_nil ⟨d1, d2, d3, rfl, q⟩) he3) he2) he) hw hs) fun E σ H ⟨hd, w⟩ => ⟨hd, fun ds O3 vs H3 ⟨d1, d2, d3, e, q⟩ hd3 s3 r3 => by
    subst e
    cases r3 with
    | cons r1 r3 =>
      cases r3 with
      | cons r2 r3 =>
        cases r3 with
        | cons r4 r3 =>
          cases r3
          exact ⟨_, _, _, rfl, w.nx _ _ _ _ q (((hd3.slot r1).slot r2).slot r4) s3⟩⟩
end

/-! ### def f(a, *rest) -/
section
variable {P : Program} {w : World} {K : PySem.W.Frag} {mg : Str → Option Value} {base : Heap}
def starP (n : Nat) (PP : PD) : PD := fun ds O Q => ∃ ws rest, ds = ws ++ rest ∧ ws.length = n ∧ rest.length ≤ sizeLine ∧ PP (ws ++ [.tup rest]) O Q
theorem reps_split {H : Hp} : ∀ {ws rest : List D} {vs : List V}, Reps K H vs (ws ++ rest) → ∃ v1 v2, vs = v1 ++ v2 ∧ Reps K H v1 ws ∧ Reps K H v2 rest
  | [], _, vs, r => ⟨[], vs, rfl, .nil, r⟩
  | _ :: ws, rest, _, .cons a r => by
    obtain ⟨v1, v2, e, r1, r2⟩ := reps_split (ws := ws) (rest := rest) r
    exact ⟨_ :: v1, v2, by rw [e]; rfl, .cons a r1, r2⟩
theorem ok_star {x qual pv : Str} {st : Stmt} {f : Addr} {fd : FuncData} {N ps : List Str} {k : Nat} {PP : PD} (Fn : Fun K x qual st f fd) (S : FnScope N (ps ++ [pv]) (defScope st))
    (hb : ∀ (kV doc pm : Value) (an : Option Addr) (cdv ct : Value) (us rest : List Value), us.length = ps.length → bindArgs (PySem.W.fnOf x qual (defArgs st) (defBody st) (defScope st) .none kV doc pm an cdv ct) ⟨us ++ rest, []⟩ = (newTuple rest >>= fun t => pure (ps.zip us ++ [(pv, t)])))
    (hbody : ∀ (cdv : Value) (A : Around) (outer : List Env) (s : Shared) (H : Hp) (E : XK) (Z : List Addr) (ds : List D) (O : Ow) (Q : QD), Room k (A.deeper (envOfC qual (defScope st) s.heap.objs.size f cdv)) → PP ds O Q →
      WB (cxOf CX0 P w K mg base N qual (defScope st) f cdv A outer s H E).nox ⟨H, ads O, Z⟩ (defBody st) (startG N.length ds) O { nx := fun _ O' => Q .non O', rt := Q }) :
    FnR P w K mg base CX0 (k + 1) f (spD K (starP ps.length PP)) := by
  obtain ⟨oc, od, kV, doc, pm, an, cdv, ct, osl, rfl, lk, hcd⟩ := Fn.ex
  have base_ := StX.fn_star (CX := CX0) (P := P) (w := w) (mg := mg) (base := base) (k := k) (sp := spD K PP) lk hcd S StX.cxUp_none (fun us rest hl => hb kV doc pm an cdv ct us rest hl) fun A outer s H vs Q E hr h => by
    obtain ⟨ds, O, Z, Q, hz, r, os, p, kk⟩ := h
    refine ⟨_, (hbody cdv A outer s H E Z ds O Q hr p).nox, start_hd r os same_refl hz, ⟨fun Γ O' σ H' q hd s' => ?_, fun d O' v H' q h s' rv => ?_, fun _ _ _ _ q => q.elim, fun _ _ _ _ q => q.elim⟩⟩
    · exact kk _ _ _ _ q s' hd.os .non
    · exact kk _ _ _ _ q s' h.os rv
  refine base_.imp fun vs H R E h => ?_
  obtain ⟨ds, O, Z, Q, hz, r, os, ⟨ws, rest, rfl, hl, hs, p⟩, kk⟩ := h
  obtain ⟨v1, v2, rfl, r1, r2⟩ := reps_split r
  refine ⟨v1, v2, rfl, r1.length.trans hl, by rw [r2.length]; exact hs, fun q hq => ?_⟩
  have hqO : q ∉ ads O := os.ne hq
  have hqZ : q ∉ Z := fun z => by
    obtain ⟨_, o, h2⟩ := hz q z
    rw [hq] at h2; cases h2
  have sm : Same (hide (ads O) H) (hide (ads O) (upd H q (.tup v2))) := same_hide_new hq
  have sS : Same (stb ⟨H, ads O, Z⟩ O H) (stb ⟨upd H q (.tup v2), ads O, Z⟩ O (upd H q (.tup v2))) := fun a o h => by
    obtain ⟨a1, a2, a3⟩ := stb_some h
    exact stb_of a1 a2 (same_new hq a o a3)
  refine ⟨ws ++ [.tup rest], O, Z, Q, fun z h => ?_, (r1.mono sS).append (.cons (.tup (.inl (stb_of hqZ hqO upd_same)) (r2.mono sS)) .nil), ⟨os.nd, fun a c m => (os.ow a c m).mono sS (upd_ne fun e => hqO (e ▸ mem_ads m))⟩, p, fun d O' v H' q2 s2 os2 r3 => ?_⟩
  · obtain ⟨h1, o, h2⟩ := hz z h
    exact ⟨h1, o, same_new hq z o h2⟩
  · exact kk d O' v H' q2 (sm.trans s2) ⟨os2.nd, os2.ow⟩ r3
end
section
variable {X : Cx} {F : Fx} {Γ : Ga} {O : Ow} {Q : QD} {CX : CXT} {k : Nat} {f : Addr} {PP : PD} {E : XK} {x : Str} {p pos : Pos} {e : Expr} {es : List Expr}
def tCallR (sp : Sp) (E : XK) (t : TA) : TE := fun σ H Q => t σ H fun vs H1 => sp vs H1 Q E
theorem pe_callR {sp : Sp} {t : TA} (Fo : FnR X.prog X.w X.K X.mg X.base CX k f sp) (hr : Room k X.A) (hg : Gl X x) (hm : X.mg x = some (.ref f)) (hk : PySem.W.keepIn X.K (.ref f) = true) (hx : Passes CX X E) (ha : PA X (e :: es) t)
    (hdb : (x == ("__debug__" : Str)) = false := by decide) (he : starEach (e :: es) X.env = (false, eval e X.env) :: starEach es X.env := by rfl) (hpl : (backTo pos (starEach es X.env)).any (·.1) = false := by rfl) :
    PE X (.Call (.Name x p) (e :: es) [] pos) (tCallR sp E t) := by
  refine ⟨fun pins s σ H Q I h => ?_⟩
  refine wpAny_Call_Name_kw (ld_glob I hg hm ?_ hdb)
  refine PySem.W.callWith_K (h₀ := X.base) I.ok.mod.kin hk (thn (ha.run pos pins s σ H _ I h) fun us s1 ⟨vs, H1, I1, r, q⟩ => ⟨I1.kIn, ?_⟩) he hpl
  exact wpAny_call (run_fnR Fo hr hx I1 r q)
theorem we_callR (Fo : FnR X.prog X.w X.K X.mg X.base CX k f (spD X.K PP)) (hr : Room k X.A) (hm : X.mg x = some (.ref f)) (hk : PySem.W.keepIn X.K (.ref f) = true) (hx : Passes CX X E)
    (h : WA X F (e :: es) Γ O fun ds O1 => CallP PP ds O1 Q) (hg : Gl X x := by rfl) (hdb : (x == ("__debug__" : Str)) = false := by decide) (he : starEach (e :: es) X.env = (false, eval e X.env) :: starEach es X.env := by rfl) (hpl : (backTo pos (starEach es X.env)).any (·.1) = false := by rfl) :
    WE X F (.Call (.Name x p) (e :: es) [] pos) Γ O Q :=
  we_of (pe_callR Fo hr hg hm hk hx h hdb he hpl) fun σ H R hd kk => ⟨hd, fun ds O1 vs H1 q1 hd1 s1 r1 =>
    callp_run hd1 r1 q1 fun d O' v H' q hd' s' r' => kk d O' v H' q hd' (s1.trans s') r'⟩
end

/-! ### a op b op' c: the three values are settled on the way -/
section
variable {X : Cx} {F : Fx} {Γ : Ga} {O : Ow} {Q : QD} {QT : Bool → Ow → Prop} {a b c : Expr} {pos : Pos} {cop cop' : CmpOp} {f g : Int → Int → Bool} {i j n : Int}
theorem we_chainN (ho : OpR X (compareOp cop) (rI0 fun i j => .bl (f i j))) (ho' : OpR X (compareOp cop') (rI0 fun i j => .bl (g i j)))
    (h : WE X F a Γ O fun x O1 => x = .int i ∧ WE X F b Γ O1 fun y O2 => y = .int j ∧ (f i j = true → WE X F c Γ O2 fun z O3 => z = .int n ∧ O3 = O2) ∧ Q (.bl (f i j && g j n)) O2)
    (hm : lastMarks [cop, cop'] [b, c] = false := by with_unfolding_all rfl) : WE X F (.Compare a [cop, cop'] [b, c] pos) Γ O Q :=
  we_chain ho ho' (we_imp h fun x O1 ⟨e1, h2⟩ => we_imp h2 fun y O2 ⟨e2, h3, q⟩ => ⟨i, j, n, e1, e2, h3, q⟩) hm
theorem wt_chainN (ho : OpR X (compareOp cop) (rI0 fun i j => .bl (f i j))) (ho' : OpR X (compareOp cop') (rI0 fun i j => .bl (g i j)))
    (h : WE X F a Γ O fun x O1 => x = .int i ∧ WE X F b Γ O1 fun y O2 => y = .int j ∧ (f i j = true → WE X F c Γ O2 fun z O3 => z = .int n ∧ O3 = O2) ∧ QT (f i j && g j n) O2)
    (hm : lastMarks [cop, cop'] [b, c] = false := by with_unfolding_all rfl) : WT X F (.Compare a [cop, cop'] [b, c] pos) Γ O QT :=
  wt_chain ho ho' (we_imp h fun x O1 ⟨e1, h2⟩ => we_imp h2 fun y O2 ⟨e2, h3, q⟩ => ⟨i, j, n, e1, e2, h3, q⟩) hm
end

/-! ### max(a list), constants that are tuples -/
section
variable {X : Cx} {F : Fx} {Γ : Ga} {O : Ow} {Q : QD} {a : Expr} {pos p : Pos}
theorem we_maxL (hm : X.mg "max" = none) (h : WE X F a Γ O fun x O1 => ∃ ns : List Int, Vw x O1 (.lst (ns.map D.int)) ∧ 0 < ns.length ∧ ∀ m, m ∈ ns → (∀ y, y ∈ ns → y ≤ m) → Q (.int m) O1) (hc : X.calm = true := by rfl) (hg : Gl X "max" := by rfl) (he : starEach (a :: []) X.env = (false, eval a X.env) :: starEach [] X.env := by rfl) (hpl : (backTo pos (starEach [] X.env)).any (·.1) = false := by rfl) :
    WE X F (.Call (.Name "max" p) [a] [] pos) Γ O Q :=
  we_cal (fun ha => pe_callB (cr_max hc) hg hm (by decide +kernel) ha (by decide) (by decide) he hpl) (wa_cons (we_imp h fun x O1 ⟨ns, w, hl, q⟩ => wa_nil fun σ H vs R hd hv k => by
    cases hv with
    | cons hv hn =>
      cases hn
      obtain ⟨p', xs, rfl, h1, h2⟩ := w.lst hd.os hv
      have e := of_ints h2
      subst e
      exact ⟨p', ns, rfl, SqL.of h1, hl, fun m hm hy => k _ O1 _ H (q m hm hy) hd same_refl (.int _)⟩) he)
/-- the module's name stands for a tuple of texts -/
def TupS (K : PySem.W.Frag) (mg : Str → Option Value) (n : Str) (ls : List (List Nat)) : Prop := ∃ t, mg n = some (.ref t) ∧ ∀ H, TupAt K H t ((ls.map sOf).map V.str)
theorem reps_strs {K : PySem.W.Frag} {H : Hp} : ∀ ls : List (List Nat), Reps K H ((ls.map sOf).map V.str) (ls.map D.str)
  | [] => .nil
  | l :: r => .cons (.str l) (reps_strs r)
theorem we_gT {n : Str} {ls : List (List Nat)} (hm : TupS X.K X.mg n ls) (q : Q (.tup (ls.map D.str)) O) (hg : Gl X n := by rfl) (hd : (n == ("__debug__" : Str)) = false := by decide) : WE X F (.Name n pos) Γ O Q := by
  obtain ⟨t, hm, ht⟩ := hm
  exact we_of (pe_glob hg hm (v := .ref t) rfl hd) fun σ H R h k => k _ O (.ref t) H q h same_refl (.tup (ht _) (reps_strs ls))
def ckTupS (K : PySem.W.Frag) (x : Str) (ls : List (List Nat)) : Bool := He.tupB K x (ls.map fun l => He.Dv.str (sOf l))
theorem ckTupS_ok {K : PySem.W.Frag} {x : Str} {ls : List (List Nat)} (h : ckTupS K x ls = true) (H : Hp) : TupAt K H (He.ga K x) ((ls.map sOf).map V.str) := by
  unfold ckTupS He.tupB at h
  cases q : K.lookup (He.ga K x) with
  | none => rw [q] at h; cases h
  | some o =>
    obtain ⟨oc, od, dt, osl⟩ := o
    rw [q] at h
    cases oc with
    | type c =>
      cases dt with
      | seq its n =>
        obtain ⟨h1, h2⟩ := He.ba (show (decide (c = "tuple") && (decide (its.size ≤ sizeLine) && He.relAll ((ls.map fun l => He.Dv.str (sOf l)).map (He.Dv.v K)) its.toList)) = true from h)
        obtain ⟨h3, h4⟩ := He.ba h2
        have e : (ls.map fun l => He.Dv.str (sOf l)).map (He.Dv.v K) = (ls.map sOf).map V.str := by
          rw [List.map_map, List.map_map]
          rfl
        rw [e] at h4
        exact .inr ⟨_, its, n, q, congrArg Value.type (of_decide_eq_true h1), rfl, of_decide_eq_true h3, He.relAll_ok h4⟩
      | _ => cases h
    | _ => cases dt <;> cases h
end
end Dl

namespace Ck
open PySem PySem.Spec PyProof.Rows L2 Dl
theorem szl : sizeLine = 16777216 := sizeLine_eq
theorem hu64 {k : Nat} {A : Around} (hr : Room k A) : A.units + 64 < cLine := hr.units
local macro_rules | `(tactic| walk_at "sz") => `(tactic| first | assumption | omega | (rw [szl]; omega) | (simp only [szl, List.length_append, List.length_cons, List.length_nil, List.length_map, List.length_take, List.length_drop, List.length_reverse] <;> omega) | decide)
local macro_rules | `(tactic| walk_at "mem") => `(tactic| first | exact List.mem_cons_self .. | exact List.mem_cons_of_mem _ (List.mem_cons_self ..) | exact List.mem_cons_of_mem _ (List.mem_cons_of_mem _ (List.mem_cons_self ..)))
local macro_rules | `(tactic| walk_at "vw") => `(tactic| first | exact Vw.self | exact Vw.own (by walk_at "mem"))
local macro_rules | `(tactic| walk_at "ok") => `(tactic| first | assumption | rfl | exact okNs_ints _ _ | (simp [okN, okNs]; done))
local macro_rules | `(tactic| walk_at "+") => `(tactic| first | refine b_addI ?_ | refine b_addS (by walk_at "sz") ?_ | refine b_addT (by walk_at "sz") ?_ | refine b_addL (by walk_at "vw") (by walk_at "vw") (by walk_at "sz") (.inl ?_))
local macro_rules | `(tactic| walk_at "-") => `(tactic| refine b_subI ?_)
local macro_rules | `(tactic| walk_at "*") => `(tactic| first | refine b_mulI (by walk_at "mulc") ?_ | refine b_repS (by walk_at "repc") ?_)
local macro_rules | `(tactic| walk_at "mulc") => `(tactic| first | exact cmul_of 400 400 (by omega) (by omega))
local macro_rules | `(tactic| walk_at "repc") => `(tactic| first | assumption)
local macro_rules | `(tactic| walk_at "//") => `(tactic| refine b_divI (by walk_at "divc") ?_)
local macro_rules | `(tactic| walk_at "divc") => `(tactic| first | exact cdiv_of 64 (by omega) (by omega))
local macro_rules | `(tactic| walk_at "%") => `(tactic| refine b_modI (by omega) ?_)
local macro_rules | `(tactic| walk_at "<") => `(tactic| refine c_ltI ?_)
local macro_rules | `(tactic| walk_at "<=") => `(tactic| refine c_leI ?_)
local macro_rules | `(tactic| walk_at ">") => `(tactic| refine c_gtI ?_)
local macro_rules | `(tactic| walk_at ">=") => `(tactic| refine c_geI ?_)
local macro_rules | `(tactic| walk_at "==") => `(tactic| first | refine c_eqI ?_ | refine c_eqS ?_ | refine c_eqB ?_ | refine c_eqD (n := 8) (m := 8) (hu64 (by assumption)) (by walk_at "vw") (by walk_at "vw") (by walk_at "ok") (by walk_at "ok") ?_)
local macro_rules | `(tactic| walk_at "!=") => `(tactic| first | refine c_neI ?_ | refine c_neS ?_ | refine c_neB ?_ | refine c_neD (n := 8) (m := 8) (hu64 (by assumption)) (by walk_at "vw") (by walk_at "vw") (by walk_at "ok") (by walk_at "ok") ?_)
local macro_rules | `(tactic| walk_at "is") => `(tactic| first | refine c_isN ?_ | refine c_isB ?_)
local macro_rules | `(tactic| walk_at "isnot") => `(tactic| refine c_notN ?_)
local macro_rules | `(tactic| walk_at "in") => `(tactic| refine c_inS ?_)
local macro_rules | `(tactic| walk_at "notin") => `(tactic| refine c_ninS ?_)
local macro_rules | `(tactic| walk_at "sl") => `(tactic| first | refine sx_S (by walk_at "sz") ?_ | refine sx_T ?_ | refine sx_L (by walk_at "vw") (.inl ?_))
local macro_rules | `(tactic| walk_at "ix") => `(tactic| first | refine ix_T rfl ?_ | refine ix_L (by walk_at "vw") rfl ?_)
local macro_rules | `(tactic| walk_at "len") => `(tactic| first | refine ⟨_, .inr (.inr (.inl ⟨_, rfl, rfl⟩)), ?_⟩ | refine ⟨_, .inr (.inr (.inr ⟨_, rfl, rfl⟩)), ?_⟩ | refine ⟨_, .inl ⟨_, rfl, by walk_at "sz", rfl⟩, ?_⟩ | refine ⟨_, .inr (.inl ⟨_, by walk_at "vw", rfl⟩), ?_⟩)
local macro_rules | `(tactic| walk_at "isi") => `(tactic| first | refine ⟨true, isi_of Vw.self rfl (by decide +kernel), ?_⟩ | refine ⟨false, isi_of Vw.self rfl (by decide +kernel), ?_⟩ | refine ⟨true, isi_of (Vw.own (by walk_at "mem")) rfl (by decide +kernel), ?_⟩ | refine ⟨false, isi_of (Vw.own (by walk_at "mem")) rfl (by decide +kernel), ?_⟩)
local macro_rules | `(tactic| walk_at "all") => `(tactic| (refine ⟨_, vwB, ?_⟩; rw [all_map_id]))
local macro_rules | `(tactic| walk_at "any") => `(tactic| (refine ⟨_, vwB, ?_⟩; rw [any_map_id]))
local macro_rules | `(tactic| walk_at "tuple") => `(tactic| first | refine ⟨_, .inl (by walk_at "vw"), ?_⟩ | refine ⟨_, .inr rfl, ?_⟩)
local macro_rules | `(tactic| walk_at "list") => `(tactic| first | refine ⟨_, .inl (by walk_at "vw"), .inl ?_⟩ | refine ⟨_, .inr rfl, .inl ?_⟩)
local macro_rules | `(tactic| walk_at "ke") => `(tactic| first | exact trivial | exact Vw.self | exact ⟨Vw.self, Vw.self⟩)
local macro_rules | `(tactic| walk_at "lclen") => `(tactic| first | omega | (simp <;> omega))
local macro_rules | `(tactic| walk_at "rng") => `(tactic| first | omega | (simp <;> omega))
local macro_rules | `(tactic| walk_at "rng4") => `(tactic| omega)
local macro_rules | `(tactic| walk_at "ret") => `(tactic| first | exact h | assumption)
local macro_rules | `(tactic| walk_at "key") => `(tactic| first | assumption | rfl | exact repL_keys (by assumption) _ | exact still_keys (by assumption) | (simp only [List.all_append, List.all_reverse, *, Bool.and_self, Bool.and_true]; done) | decide)
local macro_rules | `(tactic| walk_at "kmul") => `(tactic| (refine ⟨by omega, by omega, by simp <;> omega, by simp <;> omega⟩))
local macro_rules | `(tactic| walk_at "tk") => `(tactic| omega)
local macro_rules | `(tactic| walk_at "sm") => `(tactic| first | rfl | (simp [smN, smNs]; done) | decide)
local macro_rules | `(tactic| walk_at "sign") => `(tactic| first | assumption | rfl | decide)
local macro_rules | `(tactic| walk_at "rf") => `(tactic| first | done | rfl)
local macro_rules | `(tactic| walk_at "li") => `(tactic| first | omega | (rw [List.length_append]; omega) | (simp only [List.length_append, List.length_cons, List.length_nil, List.length_reverse]; omega))

def top (i : Nat) : Stmt := PySem.Challenge.pw_cursorkeys_k38_whole_keys_objects.main.body.getD i (.Pass ⟨0, 0, 0, 0⟩)
abbrev lettersL : List Nat := [97, 98, 99, 100, 101, 102, 103, 104, 105, 106, 107, 108, 109, 110, 111, 112, 113, 114, 115, 116, 117, 118, 119, 120, 121, 122]
def isKey (c : Nat) : Bool := decide (c ∈ lettersL) || decide ([c] ∈ [[45], [35], [60], [62]])
def hiD : Option Int → D
  | none => .non
  | some i => .int i
def isInt (i lo : Int) : Option Int → Bool
  | none => decide (lo ≤ i)
  | some hi => decide (lo ≤ i) && decide (i ≤ hi)
structure Gs (mg : Str → Option Value) : Prop where
  letters : ∃ t, mg "LETTERS" = some (.str "abcdefghijklmnopqrstuvwxyz" t)
  bs : ∃ t, mg "BACKSPACE" = some (.str "-" t)
  del : ∃ t, mg "DELETE" = some (.str "#" t)
  left : ∃ t, mg "LEFT" = some (.str "<" t)
  right : ∃ t, mg "RIGHT" = some (.str ">" t)
theorem key_lt {c : Nat} (h : isKey c = true) : c < 1114112 := by
  unfold isKey at h
  simp at h
  omega
theorem keys_lt {l : List Nat} (h : l.all isKey = true) : ∀ c ∈ l, c < 1114112 := fun c hc => key_lt (List.all_eq_true.mp h c hc)
/-! Keys objects -/
abbrev kw (C : Addr) (l : List Nat) : D := .ins C [("key_text", .str l)]
structure KC (K : PySem.W.Frag) (mg : Str → Option Value) (C gi gw pw ge gl gc gg ga gm gn gb gca : Addr) : Prop where
  m : mg "Keys" = some (.ref C)
  most : ∃ t, mg "MOST_KEYS" = some (.int 300 t)
  cl : Cls K C
  mki : Mk K C gi
  nf : NoAttr K C "key_text"
  ity : InsTy K C
  pw : PropOf K C "written" pw gw
  meq : OwnM K C "__eq__" ge
  nne : PySem.W.findIn K (.ref C) "__ne__" = some (some (.builtin "object.__ne__"))
  sob : PySem.W.subIn K (.ref C) (.type "object") = some true
  mlen : OwnM K C "__len__" gl
  nbo : PySem.W.findIn K (.ref C) "__bool__" = some none
  mco : OwnM K C "__contains__" gc
  mgi : OwnM K C "__getitem__" gg
  mad : OwnM K C "__add__" ga
  mmu : OwnM K C "__mul__" gm
  mne : OwnM K C "__neg__" gn
  mbe : Meth K C "begins" gb
  sf : PySem.W.selfFirst K C = true
  bmul : BinT K C .Mult "int"
  cal : StX.CallO K C gca
theorem nf_self {K : PySem.W.Frag} {C : Addr} : PySem.W.notFirst K C (.ref C) = true := by
  unfold PySem.W.notFirst
  simp
/-! the law's generator -/
def isBag (c : Nat) (ds : List D) : Prop := ∃ a m n : Int, ds = [.int a, .int m, .int n] ∧ 0 ≤ m ∧ m < 2 ^ 130 ∧ 0 ≤ n ∧ n ≤ (c : Int)
theorem bag_mono {c c' : Nat} (h : c ≤ c') (ds : List D) : isBag c ds → isBag c' ds := fun ⟨a, m, n, e, h1, h2, h3, h4⟩ => ⟨a, m, n, e, h1, h2, h3, by omega⟩
/-! what _law_same is asked -/
mutual
def smN : Nat → D → Bool
  | _, .non => true
  | _, .bl _ => true
  | _, .int _ => true
  | _, .str _ => true
  | 0, .lst _ => false
  | n + 1, .lst xs => decide (xs.length ≤ 1000000) && smNs n xs
  | 0, .tup _ => false
  | n + 1, .tup xs => decide (xs.length ≤ 1000000) && smNs n xs
  | _, .ty _ => false
  | _, .rl _ => false
  | _, .ins _ _ => false
  | _, .at _ => false
def smNs : Nat → List D → Bool
  | _, [] => true
  | n, x :: r => smN n x && smNs n r
end
theorem smNs_iff {n : Nat} : ∀ {xs : List D}, smNs n xs = true ↔ ∀ x ∈ xs, smN n x = true
  | [] => by simp [smNs]
  | x :: r => by
    rw [smNs, Bool.and_eq_true, smNs_iff (xs := r)]
    simp
theorem sm_cases {n : Nat} {x : D} (h : smN n x = true) : x = .non ∨ (∃ b, x = .bl b) ∨ (∃ i, x = .int i) ∨ (∃ l, x = .str l) ∨
    (∃ m xs, n = m + 1 ∧ x = .lst xs ∧ xs.length ≤ 1000000 ∧ ∀ y ∈ xs, smN m y = true) ∨ (∃ m xs, n = m + 1 ∧ x = .tup xs ∧ xs.length ≤ 1000000 ∧ ∀ y ∈ xs, smN m y = true) := by
  cases x with
  | non => exact .inl rfl
  | bl b => exact .inr (.inl ⟨b, rfl⟩)
  | int i => exact .inr (.inr (.inl ⟨i, rfl⟩))
  | str l => exact .inr (.inr (.inr (.inl ⟨l, rfl⟩)))
  | ty m => simp [smN] at h
  | rl m => simp [smN] at h
  | ins m k => simp [smN] at h
  | «at» m => simp [smN] at h
  | lst xs =>
    cases n with
    | zero => simp [smN] at h
    | succ n =>
      rw [smN, Bool.and_eq_true, decide_eq_true_iff, smNs_iff] at h
      exact .inr (.inr (.inr (.inr (.inl ⟨n, xs, rfl, rfl, h.1, h.2⟩))))
  | tup xs =>
    cases n with
    | zero => simp [smN] at h
    | succ n =>
      rw [smN, Bool.and_eq_true, decide_eq_true_iff, smNs_iff] at h
      exact .inr (.inr (.inr (.inr (.inr ⟨n, xs, rfl, rfl, h.1, h.2⟩))))
theorem range_get {n i a : Nat} (h : (List.range n)[i]? = some a) : a = i ∧ i < n := by
  rw [List.getElem?_eq_some_iff] at h
  obtain ⟨h1, h2⟩ := h
  simp at h1 h2
  exact ⟨h2.symm, h1⟩
theorem atI_nat {α : Type} {ds : List α} {i : Nat} (h : i < ds.length) : atI ds (0 + (i : Int)) = some ds[i] := by
  have e : ixN ds.length (0 + (i : Int)) = some i := by
    unfold ixN
    rw [if_pos (by omega), if_pos (by omega)]
    congr 1
    omega
  unfold atI
  rw [e]
  simp [h]
theorem atI_lit {α : Type} {ds : List α} {i : Int} {d : α} (j : Nat) (h : i = j) (hd : ds[j]? = some d) : atI ds i = some d := by
  subst h
  have h1 := (List.getElem?_eq_some_iff.mp hd).1
  have e : ixN ds.length (j : Int) = some j := by
    unfold ixN
    rw [if_pos (by omega), if_pos (by omega)]
    congr 1
  unfold atI
  rw [e]
  exact hd
theorem b_modR {X : Cx} {F : Fx} {Γ : Ga} {O : Ow} {Q : QD} {i j : Int} (hc : 0 < j) (q : ∀ x : Int, 0 ≤ x → x < j → Q (.int x) O) : BO X F .Mod (.int i) (.int j) Γ O Q := b_modI hc (q _ (Int.emod_nonneg _ (by omega)) (Int.emod_lt_of_pos _ hc))
theorem filter_false {α : Type} (l : List α) : l.filter (fun _ => false) = [] := by simp
def somes : List (List Nat) := [[97, 98, 45, 35, 60, 62], [120, 121, 122, 60, 62], [99, 45, 35, 45, 35, 60, 60, 62, 62]]
theorem some_of {x : Int} (h0 : 0 ≤ x) (h1 : x < 3) : ∃ so : List Nat, atI [D.str [97, 98, 45, 35, 60, 62], D.str [120, 121, 122, 60, 62], D.str [99, 45, 35, 45, 35, 60, 60, 62, 62]] x = some (.str so) ∧ so.all isKey = true ∧ 0 < so.length ∧ so.length ≤ 10 := by
  have : x = 0 ∨ x = 1 ∨ x = 2 := by omega
  rcases this with rfl | rfl | rfl
  · exact ⟨_, rfl, by decide, by decide, by decide⟩
  · exact ⟨_, rfl, by decide, by decide, by decide⟩
  · exact ⟨_, rfl, by decide, by decide, by decide⟩
theorem sign_of {l : List Nat} (hk : l.all isKey = true) {x : Int} (h0 : 0 ≤ x) (h1 : x < (l.length : Int)) : ∃ c, atI l x = some c ∧ isKey c = true := by
  obtain ⟨n, rfl⟩ := Int.eq_ofNat_of_zero_le h0
  have hn : n < l.length := by omega
  have hg : l[n]? = some l[n] := List.getElem?_eq_getElem hn
  exact ⟨l[n], atI_lit n rfl hg, List.all_eq_true.mp hk _ (List.getElem_mem hn)⟩
theorem chars_range (l : List Nat) : (List.range l.length).map (fun i => D.str [l.getD i 0]) = l.map fun c => D.str [c] := by
  apply List.ext_getElem?
  intro i
  rw [List.getElem?_map, List.getElem?_map]
  by_cases h : i < l.length
  · simp [h, List.getD, List.getElem?_eq_getElem h]
  · simp [h]
theorem rep_min {l : List Nat} {n : Int} (h0 : 0 ≤ n) (h : (l.length : Int) * n ≤ 300) : repL l (min n 300) = repL l n := by
  cases l with
  | nil => simp [repL]
  | cons a r =>
    have : n ≤ 300 := by
      have h1 : (1 : Int) * n ≤ ((a :: r).length : Int) * n := Int.mul_le_mul_of_nonneg_right (by simp; omega) h0
      omega
    rw [Int.min_eq_left this]
theorem repL_len {α : Type} (l : List α) (n : Int) : (repL l n).length = n.toNat * l.length := by simp [repL]
theorem repL_keys {l : List Nat} (h : l.all isKey = true) (n : Int) : (repL l n).all isKey = true := by
  rw [List.all_eq_true] at h ⊢
  intro x hx
  unfold repL at hx
  obtain ⟨m, hm, hx⟩ := List.mem_flatten.mp hx
  rw [List.eq_of_mem_replicate hm] at hx
  exact h x hx
theorem repL_le {l : List Nat} {n : Int} (h0 : 0 ≤ n) (h : (l.length : Int) * n ≤ 300) : (repL l n).length ≤ 300 := by
  rw [repL_len]
  obtain ⟨m, rfl⟩ := Int.eq_ofNat_of_zero_le h0
  have h2 : ((l.length * m : Nat) : Int) ≤ 300 := by rw [Int.natCast_mul]; exact h
  rw [Int.toNat_natCast, Nat.mul_comm]
  omega
theorem okS {l : List Nat} (h : l.all isKey = true) : okNs 2 (l.map fun c => D.str [c]) = true := okNs_iff.mpr fun x hx => by
  obtain ⟨c, hc, rfl⟩ := List.mem_map.mp hx
  exact okN_str fun d hd => by
    rw [List.mem_singleton] at hd
    subst hd
    exact keys_lt h d hc
theorem all_true {α : Type} (l : List α) : l.all (fun _ => true) = true := List.all_eq_true.mpr fun _ _ => rfl
/-! pressing -/
abbrev capsL : List Nat := [65, 66, 67, 68, 69, 70, 71, 72, 73, 74, 75, 76, 77, 78, 79, 80, 81, 82, 83, 84, 85, 86, 87, 88, 89, 90]
def isSign (c : Nat) : Bool := decide (c ∈ lettersL) || decide (c ∈ capsL)
abbrev nD (n : Nat) : D := .int (n : Int)
def isCur (n : Nat) (cs : List Int) : Bool := !decide (cs = []) && (cs.all (fun c => isInt c 0 (some (n : Int))) && (cs.zip (cs.drop 1)).all fun p => decide (p.1 < p.2))
/-- the text's stretches between the cursors -/
def strF (o : Nat) (l : List Nat) : List Nat → List (List Nat)
  | [] => [l.drop o]
  | c :: cs => (l.take c).drop o :: strF c l cs
def dedupF (ps : List Nat) : List Nat := ps.foldl (fun acc p => if acc = [] ∨ acc.getLast? ≠ some p then acc ++ [p] else acc) []
def totF (t : Nat) : List (List Nat) → List Nat
  | [] => []
  | s :: r => (t + s.length) :: totF (t + s.length) r
def stateW (ss : List (List Nat)) : List Nat × List Nat := (ss.flatten, dedupF (totF 0 ss.dropLast))
def stepF (l cs : List Nat) (k : Nat) : List Nat × List Nat :=
  if k = 60 then (l, dedupF (cs.map fun c => c - 1))
  else if k = 62 then (l, dedupF (cs.map fun c => min l.length (c + 1)))
  else if k = 35 then stateW ((strF 0 l cs).take 1 ++ ((strF 0 l cs).drop 1).map (·.drop 1))
  else if k = 45 then stateW ((strF 0 l cs).dropLast.map (·.dropLast) ++ (strF 0 l cs).drop ((strF 0 l cs).length - 1))
  else stateW ((strF 0 l cs).dropLast.map (· ++ [k]) ++ (strF 0 l cs).drop ((strF 0 l cs).length - 1))
def pressF (l cs ks : List Nat) : List Nat × List Nat := ks.foldl (fun st k => stepF st.1 st.2 k) (l, cs)
/-- valid cursors -/
structure VC (n : Nat) (cs : List Nat) : Prop where
  ne : cs ≠ []
  lt : cs.Pairwise (· < ·)
  le : ∀ c ∈ cs, c ≤ n
theorem strF_len (l : List Nat) : ∀ (o : Nat) (cs : List Nat), (strF o l cs).length = cs.length + 1
  | _, [] => rfl
  | _, c :: cs => by rw [strF, List.length_cons, strF_len l c cs]; rfl
theorem strF_ne (l : List Nat) (o : Nat) (cs : List Nat) : strF o l cs ≠ [] := fun e => by
  have := strF_len l o cs
  rw [e] at this
  cases this
theorem strF_flat (l : List Nat) : ∀ (o : Nat) (cs : List Nat), (∀ c ∈ cs, o ≤ c ∧ c ≤ l.length) → cs.Pairwise (· ≤ ·) → (strF o l cs).flatten = l.drop o
  | o, [], _, _ => by simp [strF]
  | o, c :: cs, h, hp => by
    obtain ⟨h1, h2⟩ := h c (List.mem_cons_self ..)
    have hp' := List.pairwise_cons.mp hp
    rw [strF, List.flatten_cons, strF_flat l c cs (fun d hd => ⟨hp'.1 d hd, (h d (List.mem_cons_of_mem _ hd)).2⟩) hp'.2]
    conv => rhs; rw [← List.take_append_drop c l]
    rw [List.drop_append_of_le_length (by rw [List.length_take]; omega)]
theorem strF_tot (l : List Nat) : ∀ (o : Nat) (cs : List Nat), (∀ c ∈ cs, o ≤ c ∧ c ≤ l.length) → cs.Pairwise (· ≤ ·) → totF o (strF o l cs).dropLast = cs
  | o, [], _, _ => rfl
  | o, c :: cs, h, hp => by
    obtain ⟨h1, h2⟩ := h c (List.mem_cons_self ..)
    have hp' := List.pairwise_cons.mp hp
    rw [strF, List.dropLast_cons_of_ne_nil (strF_ne l c cs), totF]
    have e : o + ((l.take c).drop o).length = c := by
      rw [List.length_drop, List.length_take]
      omega
    rw [e, strF_tot l c cs (fun d hd => ⟨hp'.1 d hd, (h d (List.mem_cons_of_mem _ hd)).2⟩) hp'.2]
theorem snoc_ind {α : Type} {P : List α → Prop} (nil : P []) (snoc : ∀ l a, P l → P (l ++ [a])) (l : List α) : P l := by
  have h : ∀ m : List α, P m.reverse := fun m => by
    induction m with
    | nil => exact nil
    | cons a m ih => rw [List.reverse_cons]; exact snoc _ _ ih
  have := h l.reverse
  rwa [List.reverse_reverse] at this
/-! copies gone -/
theorem dedup_snoc (ps : List Nat) (p : Nat) : dedupF (ps ++ [p]) = if dedupF ps = [] ∨ (dedupF ps).getLast? ≠ some p then dedupF ps ++ [p] else dedupF ps := by
  unfold dedupF
  rw [List.foldl_append]
  rfl
theorem dedup_len (ps : List Nat) : (dedupF ps).length ≤ ps.length := by
  induction ps using snoc_ind with
  | nil => exact Nat.le_refl _
  | snoc ps p ih =>
    rw [dedup_snoc]
    split
    · rw [List.length_append, List.length_append]
      exact Nat.add_le_add_right ih _
    · rw [List.length_append]
      exact Nat.le_trans ih (Nat.le_add_right _ _)
theorem dedup_last (ps : List Nat) (p : Nat) : (dedupF (ps ++ [p])).getLast? = some p := by
  rw [dedup_snoc]
  split
  · simp
  · rename_i h
    rw [not_or, Decidable.not_not] at h
    exact h.2
theorem dedup_mem (ps : List Nat) : ∀ q, q ∈ dedupF ps ↔ q ∈ ps := by
  induction ps using snoc_ind with
  | nil => intro q; exact Iff.rfl
  | snoc ps p ih =>
    intro q
    rw [dedup_snoc]
    split
    · rw [List.mem_append, List.mem_append, ih]
    · rename_i h
      rw [not_or, Decidable.not_not] at h
      rw [List.mem_append, ih, List.mem_singleton]
      constructor
      · exact .inl
      · rintro (h2 | rfl)
        · exact h2
        · exact (ih q).mp (List.mem_of_getLast? h.2)
theorem dedup_sorted {ps : List Nat} (h : ps.Pairwise (· ≤ ·)) : (dedupF ps).Pairwise (· < ·) := by
  induction ps using snoc_ind with
  | nil => exact List.Pairwise.nil
  | snoc ps p ih =>
    have hp := List.pairwise_append.mp h
    have ih' := ih hp.1
    rw [dedup_snoc]
    split
    · rename_i hc
      rw [List.pairwise_append]
      refine ⟨ih', List.pairwise_singleton _ _, fun a ha b hb => ?_⟩
      rw [List.mem_singleton] at hb
      subst hb
      have hle := hp.2.2 a ((dedup_mem ps a).mp ha) b (List.mem_singleton.mpr rfl)
      rcases Nat.lt_or_eq_of_le hle with h1 | h1
      · exact h1
      · subst h1
        -- a is the greatest, so the last
        exfalso
        rcases hc with hc | hc
        · rw [hc] at ha; cases ha
        · apply hc
          obtain ⟨l1, l2, e⟩ := List.append_of_mem ha
          cases l2 with
          | nil => rw [e]; simp
          | cons c l2 =>
            have hlt : a < c := by
              have h5 := ih'
              rw [e] at h5
              exact (List.pairwise_cons.mp (List.pairwise_append.mp h5).2.1).1 c (List.mem_cons_self ..)
            have hc2 : c ∈ dedupF ps := by rw [e]; simp
            have := hp.2.2 c ((dedup_mem ps c).mp hc2) a (List.mem_singleton.mpr rfl)
            omega
    · exact ih'
theorem dedup_ne {ps : List Nat} (h : ps ≠ []) : dedupF ps ≠ [] := fun e => by
  cases ps with
  | nil => exact h rfl
  | cons p r =>
    have := (dedup_mem (p :: r) p).mpr (List.mem_cons_self ..)
    rw [e] at this
    cases this
theorem dedup_id {ps : List Nat} (h : ps.Pairwise (· < ·)) : dedupF ps = ps := by
  induction ps using snoc_ind with
  | nil => rfl
  | snoc ps p ih =>
    have hp := List.pairwise_append.mp h
    rw [dedup_snoc, ih hp.1, if_pos]
    by_cases q : ps = []
    · exact .inl q
    · refine .inr fun e => ?_
      have := hp.2.2 p (List.mem_of_getLast? e) p (List.mem_singleton.mpr rfl)
      omega
/-! totals -/
theorem tot_le : ∀ (t : Nat) (ss : List (List Nat)), (∀ c ∈ totF t ss, t ≤ c ∧ c ≤ t + ss.flatten.length) ∧ (totF t ss).Pairwise (· ≤ ·)
  | t, [] => ⟨(fun c h => nomatch h), List.Pairwise.nil⟩
  | t, s :: r => by
    obtain ⟨h1, h2⟩ := tot_le (t + s.length) r
    refine ⟨fun c hc => ?_, ?_⟩
    · rw [totF] at hc
      rw [List.flatten_cons, List.length_append]
      rcases List.mem_cons.mp hc with rfl | hc
      · omega
      · have := h1 c hc
        omega
    · rw [totF, List.pairwise_cons]
      exact ⟨fun c hc => (h1 c hc).1, h2⟩
theorem tot_len : ∀ (t : Nat) (ss : List (List Nat)), (totF t ss).length = ss.length
  | _, [] => rfl
  | t, s :: r => by rw [totF, List.length_cons, tot_len _ r]; rfl
theorem flat_dropLast (ss : List (List Nat)) : ss.dropLast.flatten.length ≤ ss.flatten.length := by
  rcases List.eq_nil_or_concat ss with rfl | ⟨r, s, rfl⟩
  · exact Nat.le_refl _
  · rw [List.concat_eq_append, List.dropLast_concat, List.flatten_append, List.length_append]
    exact Nat.le_add_right _ _
theorem stateW_vc {ss : List (List Nat)} (h : 2 ≤ ss.length) : VC (stateW ss).1.length (stateW ss).2 := by
  have hl : ss.dropLast.length = ss.length - 1 := List.length_dropLast
  refine ⟨dedup_ne (fun e => ?_), dedup_sorted (tot_le 0 _).2, fun c hc => ?_⟩
  · have := tot_len 0 ss.dropLast
    rw [e] at this
    simp at this
    omega
  · have h1 := (tot_le 0 ss.dropLast).1 c ((dedup_mem _ c).mp hc)
    have h2 := flat_dropLast ss
    show c ≤ ss.flatten.length
    omega
theorem stateW_len {ss : List (List Nat)} : (stateW ss).2.length ≤ ss.length - 1 := by
  have h1 := dedup_len (totF 0 ss.dropLast)
  rw [tot_len, List.length_dropLast] at h1
  exact h1
theorem VC.le_pw {n : Nat} {cs : List Nat} (h : VC n cs) : cs.Pairwise (· ≤ ·) := h.lt.imp fun h => Nat.le_of_lt h
theorem zipD_tail {α : Type} (f : α → D) (xs : List α) : zipD (xs.map f) ((xs.map f).drop 1) = (xs.zip (xs.drop 1)).map fun p => D.tup [f p.1, f p.2] := by
  unfold zipD
  rw [← List.map_drop, List.zip_map, List.map_map]
  rfl
theorem cut_one {α : Type} (l : List α) : cut l (some 1) none = l.drop 1 := cut_from l 1
theorem eqT_nil {α : Type} (f : α → D) (xs : List α) : eqD (.tup (xs.map f)) (.tup []) = decide (xs = []) := by
  rw [eqD_tup]
  cases xs with
  | nil => rfl
  | cons x r => rw [List.map_cons, eqDs_cn]; simp
theorem eqL_nil {α : Type} (f : α → D) (xs : List α) : eqD (.lst (xs.map f)) (.lst []) = decide (xs = []) := by
  rw [eqD_lst]
  cases xs with
  | nil => rfl
  | cons x r => rw [List.map_cons, eqDs_cn]; simp
theorem okNs_nD (n : Nat) (xs : List Nat) : okNs n (xs.map nD) = true := okNs_iff.mpr fun x hx => by
  obtain ⟨i, _, rfl⟩ := List.mem_map.mp hx
  cases n <;> rfl
theorem pw_zip {cs : List Nat} (h : cs.Pairwise (· < ·)) : ∀ p ∈ cs.zip (cs.drop 1), p.1 < p.2 := by
  induction cs with
  | nil => intro p hp; simp at hp
  | cons a r ih =>
    have hp := List.pairwise_cons.mp h
    intro p hm
    cases r with
    | nil => simp at hm
    | cons b r =>
      rw [List.drop_one, List.tail_cons, List.zip_cons_cons] at hm
      rcases List.mem_cons.mp hm with rfl | hm
      · exact hp.1 b (List.mem_cons_self ..)
      · exact ih hp.2 p (by rw [List.drop_one, List.tail_cons]; exact hm)
theorem isCur_of {n : Nat} {cs : List Nat} (h : VC n cs) : isCur n (cs.map fun c : Nat => (c : Int)) = true := by
  unfold isCur
  rw [Bool.and_eq_true, Bool.and_eq_true]
  refine ⟨?_, ?_, ?_⟩
  · have := h.ne
    simp [this]
  · rw [List.all_eq_true]
    intro x hx
    obtain ⟨c, hc, rfl⟩ := List.mem_map.mp hx
    have := h.le c hc
    unfold isInt
    simp
    omega
  · rw [List.all_eq_true, ← List.map_drop, List.zip_map]
    intro x hx
    obtain ⟨p, hp, rfl⟩ := List.mem_map.mp hx
    have := pw_zip h.lt p hp
    simp
    exact this
theorem strF_zip (l : List Nat) : ∀ (o : Nat) (cs : List Nat), (((o :: cs) ++ [l.length]).zip (((o :: cs) ++ [l.length]).drop 1)).map (fun p => (l.take p.2).drop p.1) = strF o l cs
  | o, [] => by simp [strF]
  | o, c :: cs => by
    have ih := strF_zip l c cs
    rw [strF, ← ih]
    rfl
theorem atI_last' {α : Type} {xs : List α} {v : α} (h : xs.getLast? = some v) : atI xs (-1) = some v := by
  obtain ⟨r, rfl⟩ : ∃ r, xs = r ++ [v] := by
    rcases List.eq_nil_or_concat xs with rfl | ⟨r, s, rfl⟩
    · cases h
    · rw [List.concat_eq_append] at h ⊢
      rw [List.getLast?_concat] at h
      cases h
      exact ⟨r, rfl⟩
  exact atI_last r v
theorem last_nD {X : List Nat} (h : X ≠ []) : atI (X.map nD) (-1) = some (nD (X.getLastD 0)) := by
  refine atI_last' ?_
  rcases List.eq_nil_or_concat X with rfl | ⟨r, s, rfl⟩
  · exact absurd rfl h
  · rw [List.concat_eq_append, List.map_append, List.map_singleton, List.getLast?_concat, List.getLastD_concat]
theorem dedup_turn {ps : List Nat} {i p : Nat} (h : ps[i]? = some p) : dedupF (ps.take (i + 1)) = if (decide (dedupF (ps.take i) = []) || !decide (((dedupF (ps.take i)).getLastD 0 : Int) = (p : Int))) = true then dedupF (ps.take i) ++ [p] else dedupF (ps.take i) := by
  rw [take_get h, dedup_snoc]
  generalize dedupF (ps.take i) = X
  by_cases hx : X = []
  · subst hx
    simp
  · have hl : X.getLast? = some (X.getLastD 0) := by
      rcases List.eq_nil_or_concat X with rfl | ⟨r, s, rfl⟩
      · exact absurd rfl hx
      · rw [List.concat_eq_append, List.getLast?_concat, List.getLastD_concat]
    rw [hl]
    generalize X.getLastD 0 = y
    by_cases hq : y = p
    · subst hq
      simp [hx]
    · have : ¬ ((y : Int) = (p : Int)) := by omega
      simp [hx, hq, this]
theorem tot_snoc (s : List Nat) : ∀ (t : Nat) (xs : List (List Nat)), totF t (xs ++ [s]) = totF t xs ++ [t + xs.flatten.length + s.length]
  | t, [] => by simp [totF]
  | t, x :: r => by
    rw [List.cons_append, totF, totF, tot_snoc s (t + x.length) r, List.flatten_cons, List.length_append, List.cons_append, Nat.add_assoc t]
theorem map_dropLast' {α β : Type} (f : α → β) (xs : List α) : (xs.map f).dropLast = xs.dropLast.map f := by
  rw [List.dropLast_eq_take, List.dropLast_eq_take, List.length_map, List.map_take]
theorem joinL_nil : ∀ ss : List (List Nat), TL.joinL [] ss = ss.flatten
  | [] => rfl
  | [s] => by simp [TL.joinL]
  | s :: r :: q => by
    have ih := joinL_nil (r :: q)
    rw [List.flatten_cons, ← ih]
    simp [TL.joinL]
theorem flat_len_take (xs : List (List Nat)) (i : Nat) : (xs.take i).flatten.length ≤ xs.flatten.length := by
  conv => rhs; rw [← List.take_append_drop i xs, List.flatten_append, List.length_append]
  exact Nat.le_add_right _ _
/-! sizes of a step -/
theorem strF_flat0 {n : Nat} {l cs : List Nat} (hn : n = l.length) (h : VC n cs) : (strF 0 l cs).flatten = l := by
  subst hn
  have := strF_flat l 0 cs (fun c hc => ⟨Nat.zero_le _, h.le c hc⟩) h.le_pw
  rwa [List.drop_zero] at this
theorem flat_map_le (f : List Nat → List Nat) (k : Nat) : ∀ ss : List (List Nat), (∀ s ∈ ss, (f s).length ≤ s.length + k) → (ss.map f).flatten.length ≤ ss.flatten.length + ss.length * k
  | [], _ => by simp
  | s :: r, h => by
    have ih := flat_map_le f k r fun s hs => h s (List.mem_cons_of_mem _ hs)
    have h1 := h s (List.mem_cons_self ..)
    rw [List.map_cons, List.flatten_cons, List.flatten_cons, List.length_append, List.length_append, List.length_cons, Nat.succ_mul]
    omega
theorem drop_last_one {α : Type} (ss : List α) : ss.dropLast ++ ss.drop (ss.length - 1) = ss := by
  rw [List.dropLast_eq_take]
  exact List.take_append_drop _ _
theorem flat_app_len (a b : List (List Nat)) : (a ++ b).flatten.length = a.flatten.length + b.flatten.length := by rw [List.flatten_append, List.length_append]
structure StOk (l cs : List Nat) (m : Nat) (st : List Nat × List Nat) : Prop where
  vc : VC st.1.length st.2
  ln : st.1.length ≤ l.length + m
  cn : st.2.length ≤ cs.length
theorem stateW_ok {l cs : List Nat} {ss : List (List Nat)} (h2 : ss.length = cs.length + 1) (hc : cs ≠ []) (hl : ss.flatten.length ≤ l.length + cs.length) : StOk l cs cs.length (stateW ss) := by
  have hp : 0 < cs.length := List.length_pos_iff.mpr hc
  refine ⟨stateW_vc (by omega), hl, ?_⟩
  have := stateW_len (ss := ss)
  omega
theorem stepF_ok {l cs : List Nat} {k : Nat} (h : VC l.length cs) : StOk l cs cs.length (stepF l cs k) := by
  have hm : ∀ f : Nat → Nat, (∀ a b, a ≤ b → f a ≤ f b) → (∀ c ≤ l.length, f c ≤ l.length) → StOk l cs cs.length (l, dedupF (cs.map f)) := fun f hf hb => by
    refine ⟨⟨dedup_ne fun e => h.ne (List.map_eq_nil_iff.mp e), dedup_sorted ?_, fun c hc => ?_⟩, Nat.le_add_right _ _, ?_⟩
    · rw [List.pairwise_map]
      exact h.lt.imp fun hab => hf _ _ (Nat.le_of_lt hab)
    · obtain ⟨d, hd, rfl⟩ := List.mem_map.mp ((dedup_mem _ c).mp hc)
      exact hb d (h.le d hd)
    · refine Nat.le_trans (dedup_len _) ?_
      rw [List.length_map]
      exact Nat.le_refl _
  have hs := strF_len l 0 cs
  have hf := strF_flat0 rfl h
  unfold stepF
  split
  · exact hm _ (fun a b hab => by omega) fun c hc => by omega
  split
  · exact hm _ (fun a b hab => by omega) fun c hc => by omega
  split
  · refine stateW_ok ?_ h.ne ?_
    · rw [List.length_append, List.length_map, List.length_take, List.length_drop, hs]; omega
    · have h1 := flat_map_le (·.drop 1) 0 ((strF 0 l cs).drop 1) fun s _ => by rw [List.length_drop]; omega
      have h2 : ((strF 0 l cs).take 1).flatten.length + ((strF 0 l cs).drop 1).flatten.length = l.length := by
        rw [← flat_app_len, List.take_append_drop, hf]
      rw [flat_app_len]
      omega
  split
  · refine stateW_ok ?_ h.ne ?_
    · rw [List.length_append, List.length_map, List.length_dropLast, List.length_drop, hs]; omega
    · have h1 := flat_map_le (·.dropLast) 0 (strF 0 l cs).dropLast fun s _ => by rw [List.length_dropLast]; omega
      have h2 : (strF 0 l cs).dropLast.flatten.length + ((strF 0 l cs).drop ((strF 0 l cs).length - 1)).flatten.length = l.length := by
        rw [← flat_app_len, drop_last_one, hf]
      rw [flat_app_len]
      omega
  · refine stateW_ok ?_ h.ne ?_
    · rw [List.length_append, List.length_map, List.length_dropLast, List.length_drop, hs]; omega
    · have h1 := flat_map_le (· ++ [k]) 1 (strF 0 l cs).dropLast fun s _ => by rw [List.length_append]; simp
      have h2 : (strF 0 l cs).dropLast.flatten.length + ((strF 0 l cs).drop ((strF 0 l cs).length - 1)).flatten.length = l.length := by
        rw [← flat_app_len, drop_last_one, hf]
      rw [List.length_dropLast, hs] at h1
      rw [flat_app_len]
      omega
theorem press_snoc (l cs ks : List Nat) (k : Nat) : pressF l cs (ks ++ [k]) = stepF (pressF l cs ks).1 (pressF l cs ks).2 k := by
  unfold pressF
  rw [List.foldl_append]
  rfl
theorem press_app (l cs ks ms : List Nat) : pressF l cs (ks ++ ms) = pressF (pressF l cs ks).1 (pressF l cs ks).2 ms := by
  unfold pressF
  rw [List.foldl_append]
theorem pressF_ok {l cs : List Nat} (h : VC l.length cs) (ks : List Nat) : StOk l cs (cs.length * ks.length) (pressF l cs ks) := by
  induction ks using snoc_ind with
  | nil => exact ⟨h, Nat.le_add_right _ _, Nat.le_refl _⟩
  | snoc ks k ih =>
    rw [press_snoc]
    have h1 := stepF_ok (k := k) ih.vc
    refine ⟨h1.vc, ?_, Nat.le_trans h1.cn ih.cn⟩
    have a := h1.ln
    have b := ih.ln
    have c := ih.cn
    rw [List.length_append, List.length_singleton, Nat.mul_succ]
    omega
structure Gcap (mg : Str → Option Value) : Prop where
  capitals : ∃ t, mg "CAPITALS" = some (.str "ABCDEFGHIJKLMNOPQRSTUVWXYZ" t)
theorem len_le {ss : List (List Nat)} {n : Nat} (h : ss.flatten.length = n) {s : List Nat} (hs : s ∈ ss) : s.length ≤ n := by
  obtain ⟨a, b, rfl⟩ := List.append_of_mem hs
  rw [flat_app_len, List.flatten_cons, List.length_append] at h
  omega
theorem len_big {ss : List (List Nat)} {n : Nat} (h : ss.flatten.length = n) (hn : n ≤ 900000) {s : List Nat} (hs : s ∈ ss) : s.length ≤ sizeLine := by
  have := len_le h hs
  rw [szl]
  omega
theorem step_d1 {ss : List (List Nat)} {n : Nat} (h : ss.flatten.length = n) (hn : n ≤ 900000) : (ss.take 1 ++ (ss.drop 1).map (·.drop 1)).flatten.length ≤ 2000000 := by
  have h1 := flat_map_le (·.drop 1) 0 (ss.drop 1) fun s _ => by rw [List.length_drop]; omega
  have h2 : (ss.take 1).flatten.length + (ss.drop 1).flatten.length = n := by rw [← flat_app_len, List.take_append_drop, h]
  rw [flat_app_len]
  omega
theorem step_d2 {ss : List (List Nat)} {n : Nat} (h : ss.flatten.length = n) (hn : n ≤ 900000) : (ss.dropLast.map (·.dropLast) ++ ss.drop (ss.length - 1)).flatten.length ≤ 2000000 := by
  have h1 := flat_map_le (·.dropLast) 0 ss.dropLast fun s _ => by rw [List.length_dropLast]; omega
  have h2 : ss.dropLast.flatten.length + (ss.drop (ss.length - 1)).flatten.length = n := by rw [← flat_app_len, drop_last_one, h]
  rw [flat_app_len]
  omega
theorem step_d3 {ss : List (List Nat)} {n k : Nat} (h : ss.flatten.length = n) (hn : n ≤ 900000) (hs : ss.length ≤ 100000) : (ss.dropLast.map (· ++ [k]) ++ ss.drop (ss.length - 1)).flatten.length ≤ 2000000 := by
  have h1 := flat_map_le (· ++ [k]) 1 ss.dropLast fun s _ => by rw [List.length_append]; simp
  have h2 : ss.dropLast.flatten.length + (ss.drop (ss.length - 1)).flatten.length = n := by rw [← flat_app_len, drop_last_one, h]
  rw [List.length_dropLast] at h1
  rw [flat_app_len]
  omega
/-! sums of a key list -/
def sumSt (acc : List Int) (k : Nat) : List Int := if k ∈ [45, 35] then acc ++ [acc.getLastD 0 + 1] else if k ∈ [60, 62] then acc else acc ++ [acc.getLastD 0 - 1]
def sumsF (ks : List Nat) : List Int := ks.foldl sumSt [0]
def netI (ks : List Nat) : Int := (sumsF ks).getLastD 0
def IsMax (ns : List Int) (m : Int) : Prop := m ∈ ns ∧ ∀ y, y ∈ ns → y ≤ m
theorem sums_snoc (ks : List Nat) (k : Nat) : sumsF (ks ++ [k]) = sumSt (sumsF ks) k := by
  unfold sumsF
  rw [List.foldl_append]
  rfl
theorem sumSt_len (acc : List Int) (k : Nat) : acc.length ≤ (sumSt acc k).length ∧ (sumSt acc k).length ≤ acc.length + 1 := by
  unfold sumSt
  split
  · simp
  · split
    · simp
    · simp
theorem sums_len (ks : List Nat) : 1 ≤ (sumsF ks).length ∧ (sumsF ks).length ≤ ks.length + 1 := by
  induction ks using snoc_ind with
  | nil => exact ⟨Nat.le_refl _, Nat.le_refl _⟩
  | snoc ks k ih =>
    rw [sums_snoc, List.length_append]
    have := sumSt_len (sumsF ks) k
    simp
    omega
theorem sums_ne (ks : List Nat) : sumsF ks ≠ [] := fun e => by
  have := (sums_len ks).1
  rw [e] at this
  simp at this
theorem getLastD_of_ne {α : Type} {xs : List α} (d e : α) (h : xs ≠ []) : xs.getLastD d = xs.getLastD e := by
  rcases List.eq_nil_or_concat xs with rfl | ⟨r, s, rfl⟩
  · exact absurd rfl h
  · rw [List.concat_eq_append, List.getLastD_concat, List.getLastD_concat]
/-- the sums of a list behind another -/
theorem sums_app (a b : List Nat) : sumsF (a ++ b) = sumsF a ++ ((sumsF b).drop 1).map (· + netI a) ∧ netI (a ++ b) = netI a + netI b := by
  induction b using snoc_ind with
  | nil =>
    rw [List.append_nil]
    refine ⟨?_, ?_⟩
    · show sumsF a = sumsF a ++ []
      rw [List.append_nil]
    · show netI a = netI a + 0
      omega
  | snoc b k ih =>
    obtain ⟨h1, h2⟩ := ih
    have hb := sums_ne b
    have hd : ∀ x : Int, ((sumsF b ++ [x]).drop 1) = (sumsF b).drop 1 ++ [x] := fun x => by
      cases e : sumsF b with
      | nil => exact absurd e hb
      | cons y r => rfl
    rw [← List.append_assoc, sums_snoc]
    unfold netI at h1 h2 ⊢
    rw [sums_snoc, sums_snoc]
    unfold sumSt
    split
    · refine ⟨?_, ?_⟩
      · rw [hd, List.map_append, ← List.append_assoc, ← h1, h2]
        simp
        omega
      · rw [List.getLastD_concat, List.getLastD_concat, h2]; omega
    · split
      · exact ⟨h1, h2⟩
      · refine ⟨?_, ?_⟩
        · rw [hd, List.map_append, ← List.append_assoc, ← h1, h2]
          simp
          omega
        · rw [List.getLastD_concat, List.getLastD_concat, h2]; omega
theorem net_mem (a : List Nat) : netI a ∈ sumsF a := by
  unfold netI
  rcases List.eq_nil_or_concat (sumsF a) with e | ⟨r, s, e⟩
  · exact absurd e (sums_ne a)
  · rw [e, List.concat_eq_append, List.getLastD_concat]
    simp
theorem sums_zero (b : List Nat) : ∃ r, sumsF b = 0 :: r := by
  induction b using snoc_ind with
  | nil => exact ⟨[], rfl⟩
  | snoc b k ih =>
    obtain ⟨r, e⟩ := ih
    rw [sums_snoc]
    unfold sumSt
    rw [e]
    split
    · exact ⟨_, rfl⟩
    · split
      · exact ⟨_, rfl⟩
      · exact ⟨_, rfl⟩
theorem max_app {a b : List Nat} {m x y : Int} (hm : IsMax (sumsF (a ++ b)) m) (hx : IsMax (sumsF a) x) (hy : IsMax (sumsF b) y) : m = max x (y + netI a) := by
  obtain ⟨h1, _⟩ := sums_app a b
  obtain ⟨r, e⟩ := sums_zero b
  have hmem : ∀ z, z ∈ sumsF (a ++ b) ↔ z ∈ sumsF a ∨ ∃ u ∈ sumsF b, z = u + netI a := fun z => by
    rw [h1, e, List.mem_append]
    constructor
    · rintro (h | h)
      · exact .inl h
      · obtain ⟨u, hu, rfl⟩ := List.mem_map.mp h
        exact .inr ⟨u, List.mem_cons_of_mem _ hu, rfl⟩
    · rintro (h | ⟨u, hu, rfl⟩)
      · exact .inl h
      · rcases List.mem_cons.mp hu with rfl | hu
        · exact .inl (by rw [Int.zero_add]; exact net_mem a)
        · exact .inr (List.mem_map.mpr ⟨u, hu, rfl⟩)
  have p1 := hm.2 x ((hmem x).mpr (.inl hx.1))
  have p2 := hm.2 (y + netI a) ((hmem _).mpr (.inr ⟨y, hy.1, rfl⟩))
  rcases (hmem m).mp hm.1 with h | ⟨u, hu, e2⟩
  · have := hx.2 m h
    omega
  · have := hy.2 u hu
    omega
theorem last_int {X : List Int} (h : X ≠ []) : atI (X.map D.int) (-1) = some (.int (X.getLastD 0)) := by
  refine atI_last' ?_
  rcases List.eq_nil_or_concat X with rfl | ⟨r, s, rfl⟩
  · exact absurd rfl h
  · rw [List.concat_eq_append, List.map_append, List.map_singleton, List.getLast?_concat, List.getLastD_concat]
/-! reaches -/
structure Far where
  lr : Nat
  rr : Nat
  L : List D
  R : List D
def farA (st : Far) (k : Nat) : Far := if k ∈ [45, 60] ∧ st.L.isEmpty = true then ⟨st.lr + 1, st.rr, st.L ++ [.int (0 - ((st.lr : Int) + 1))], st.R⟩ else st
def farB (st : Far) (k : Nat) : Far := if k ∈ [35, 62] ∧ st.R.isEmpty = true then ⟨st.lr, st.rr + 1, st.L, st.R ++ [.int st.rr]⟩ else st
def farC (st : Far) (k : Nat) : Far :=
  if k = 45 then ⟨st.lr, st.rr, st.L.dropLast, st.R⟩
  else if k = 35 then ⟨st.lr, st.rr, st.L, st.R.dropLast⟩
  else if k = 60 then ⟨st.lr, st.rr, st.L.dropLast, st.R ++ [st.L.getLastD .non]⟩
  else if k = 62 then ⟨st.lr, st.rr, st.L ++ [st.R.getLastD .non], st.R.dropLast⟩
  else ⟨st.lr, st.rr, st.L ++ [.str [k]], st.R⟩
def farS (st : Far) (k : Nat) : Far := farC (farB (farA st k) k) k
def farF (ks : List Nat) : Far := ks.foldl farS ⟨0, 0, [], []⟩
theorem far_snoc (ks : List Nat) (k : Nat) : farF (ks ++ [k]) = farS (farF ks) k := by
  unfold farF
  rw [List.foldl_append]
  rfl
theorem farS_le (st : Far) (k : Nat) : st.lr ≤ (farS st k).lr ∧ st.rr ≤ (farS st k).rr := by
  have hC : ∀ s : Far, (farC s k).lr = s.lr ∧ (farC s k).rr = s.rr := fun s => by
    unfold farC
    repeat (split <;> try exact ⟨rfl, rfl⟩)
  have hB : ∀ s : Far, s.lr ≤ (farB s k).lr ∧ s.rr ≤ (farB s k).rr := fun s => by
    unfold farB
    split
    · exact ⟨Nat.le_refl _, Nat.le_succ _⟩
    · exact ⟨Nat.le_refl _, Nat.le_refl _⟩
  have hA : ∀ s : Far, s.lr ≤ (farA s k).lr ∧ s.rr ≤ (farA s k).rr := fun s => by
    unfold farA
    split
    · exact ⟨Nat.le_succ _, Nat.le_refl _⟩
    · exact ⟨Nat.le_refl _, Nat.le_refl _⟩
  have a := hA st
  have b := hB (farA st k)
  have c := hC (farB (farA st k) k)
  unfold farS
  omega
theorem far_app (a b : List Nat) : (farF a).lr ≤ (farF (a ++ b)).lr ∧ (farF a).rr ≤ (farF (a ++ b)).rr := by
  induction b using snoc_ind with
  | nil => rw [List.append_nil]; exact ⟨Nat.le_refl _, Nat.le_refl _⟩
  | snoc b k ih =>
    rw [← List.append_assoc, far_snoc]
    have := farS_le (farF (a ++ b)) k
    omega
/-- what stands in the two lists -/
def farD (d : D) : Prop := (∃ i, d = .int i) ∨ ∃ k, d = .str [k] ∧ isKey k = true
structure FarOk (n : Nat) (st : Far) : Prop where
  l : st.lr ≤ n
  r : st.rr ≤ n
  L : st.L.length ≤ n
  R : st.R.length ≤ n
  dL : ∀ d ∈ st.L, farD d
  dR : ∀ d ∈ st.R, farD d
theorem farD_last {xs : List D} (h : ∀ d ∈ xs, farD d) (hne : xs ≠ []) : farD (xs.getLastD .non) := by
  rcases List.eq_nil_or_concat xs with rfl | ⟨r, s, rfl⟩
  · exact absurd rfl hne
  · rw [List.concat_eq_append, List.getLastD_concat]
    rw [List.concat_eq_append] at h
    exact h s (by simp)
theorem farA_ok {n : Nat} {st : Far} (k : Nat) (h : FarOk n st) : FarOk (n + 1) (farA st k) ∧ (k ∈ [45, 60] → (farA st k).L ≠ []) := by
  unfold farA
  split
  · rename_i c
    refine ⟨⟨by have := h.l; simp; omega, by have := h.r; simp; omega, by have := h.L; simp; omega, by have := h.R; simp; omega, fun d hd => ?_, h.dR⟩, fun _ => by simp⟩
    rcases List.mem_append.mp hd with hd | hd
    · exact h.dL d hd
    · rw [List.mem_singleton] at hd
      exact .inl ⟨_, hd⟩
  · rename_i c
    refine ⟨⟨Nat.le_succ_of_le h.l, Nat.le_succ_of_le h.r, Nat.le_succ_of_le h.L, Nat.le_succ_of_le h.R, h.dL, h.dR⟩, fun hk e => c ⟨hk, by rw [e]; rfl⟩⟩
theorem farB_ok {n : Nat} {st : Far} (k : Nat) (h : FarOk n st) : FarOk (n + 1) (farB st k) ∧ (k ∈ [35, 62] → (farB st k).R ≠ []) ∧ (farB st k).L = st.L := by
  unfold farB
  split
  · rename_i c
    refine ⟨⟨by have := h.l; simp; omega, by have := h.r; simp; omega, by have := h.L; simp; omega, by have := h.R; simp; omega, h.dL, fun d hd => ?_⟩, fun _ => by simp, rfl⟩
    rcases List.mem_append.mp hd with hd | hd
    · exact h.dR d hd
    · rw [List.mem_singleton] at hd
      exact .inl ⟨_, hd⟩
  · rename_i c
    refine ⟨⟨Nat.le_succ_of_le h.l, Nat.le_succ_of_le h.r, Nat.le_succ_of_le h.L, Nat.le_succ_of_le h.R, h.dL, h.dR⟩, fun hk e => c ⟨hk, by rw [e]; rfl⟩, rfl⟩
theorem farC_ok {n : Nat} {st : Far} {k : Nat} (hk : isKey k = true) (h : FarOk n st) (h1 : k ∈ [45, 60] → st.L ≠ []) (h2 : k ∈ [35, 62] → st.R ≠ []) : FarOk (n + 1) (farC st k) := by
  have dl : ∀ {xs : List D}, (∀ d ∈ xs, farD d) → ∀ d ∈ xs.dropLast, farD d := fun h d hd => h d (List.dropLast_subset _ hd)
  have ap : ∀ {xs : List D} {y : D}, (∀ d ∈ xs, farD d) → farD y → ∀ d ∈ xs ++ [y], farD d := fun h hy d hd => by
    rcases List.mem_append.mp hd with hd | hd
    · exact h d hd
    · rw [List.mem_singleton] at hd
      rw [hd]; exact hy
  have a1 := h.l; have a2 := h.r; have a3 := h.L; have a4 := h.R
  unfold farC
  split
  · exact ⟨by simp; omega, by simp; omega, by simp; omega, by simp; omega, dl h.dL, h.dR⟩
  split
  · exact ⟨by simp; omega, by simp; omega, by simp; omega, by simp; omega, h.dL, dl h.dR⟩
  split
  · rename_i e; exact ⟨by simp; omega, by simp; omega, by simp; omega, by simp; omega, dl h.dL, ap h.dR (farD_last h.dL (h1 (by simp [e])))⟩
  split
  · rename_i e; exact ⟨by simp; omega, by simp; omega, by simp; omega, by simp; omega, ap h.dL (farD_last h.dR (h2 (by simp [e]))), dl h.dR⟩
  · exact ⟨by simp; omega, by simp; omega, by simp; omega, by simp; omega, ap h.dL (.inr ⟨k, rfl, hk⟩), h.dR⟩
theorem far_ok (ks : List Nat) (h : ks.all isKey = true) : FarOk (3 * ks.length) (farF ks) := by
  induction ks using snoc_ind with
  | nil => exact ⟨Nat.le_refl _, Nat.le_refl _, Nat.le_refl _, Nat.le_refl _, (fun d hd => nomatch hd), (fun d hd => nomatch hd)⟩
  | snoc ks k ih =>
    rw [List.all_append, Bool.and_eq_true] at h
    have hk : isKey k = true := by simpa using h.2
    obtain ⟨i1, i2⟩ := farA_ok k (ih h.1)
    obtain ⟨j1, j2, j3⟩ := farB_ok k i1
    rw [far_snoc, List.length_append, List.length_singleton]
    exact farC_ok hk j1 (fun q => by rw [j3]; exact i2 q) j2
theorem farD_okN {d : D} (h : farD d) : okN 7 d = true := by
  rcases h with ⟨i, rfl⟩ | ⟨k, rfl, hk⟩
  · rfl
  · exact okN_str fun c hc => by
      rw [List.mem_singleton] at hc
      subst hc
      exact key_lt hk
theorem farD_okNs {xs : List D} (h : ∀ d ∈ xs, farD d) : okN 8 (.lst xs) = true := by
  rw [okN]
  exact okNs_iff.mpr fun x hx => farD_okN (h x hx)
theorem eqL_empty (xs : List D) : eqD (.lst xs) (.lst []) = xs.isEmpty := by
  rw [eqD_lst]
  cases xs with
  | nil => rfl
  | cons x r => rw [eqDs_cn]; rfl
theorem last_D {xs : List D} (h : xs ≠ []) : xs.getLast? = some (xs.getLastD .non) := by
  rcases List.eq_nil_or_concat xs with rfl | ⟨r, s, rfl⟩
  · exact absurd rfl h
  · rw [List.concat_eq_append, List.getLast?_concat, List.getLastD_concat]
/-! forms -/
structure Fm where
  b : Nat
  w : List Nat
  a : Nat
  d : Int
  s : Int
def fmS (f : Fm) (k : Nat) : Fm :=
  if k ∈ lettersL then ⟨f.b, f.w ++ [k], f.a, f.d, f.s - 1⟩
  else if k = 35 then ⟨f.b, f.w, f.a + 1, max f.d (f.s + 1), f.s + 1⟩
  else if f.w = [] then ⟨f.b + 1, f.w, f.a, max f.d (f.s + 1), f.s + 1⟩
  else ⟨f.b, f.w.dropLast, f.a, max f.d (f.s + 1), f.s + 1⟩
def fmF (ks : List Nat) : Fm := ks.foldl fmS ⟨0, [], 0, 0, 0⟩
def fmD (f : Fm) : D := .tup [nD f.b, .str f.w, nD f.a, .int f.d]
theorem fm_snoc (ks : List Nat) (k : Nat) : fmF (ks ++ [k]) = fmS (fmF ks) k := by
  unfold fmF
  rw [List.foldl_append]
  rfl
structure FmOk (n : Nat) (f : Fm) : Prop where
  s : f.s = (f.a : Int) + f.b - f.w.length
  sd : f.s ≤ f.d
  bd : (f.b : Int) ≤ f.d
  dl : f.d ≤ (f.a : Int) + f.b
  ab : f.a + f.b ≤ n
  wl : f.w.length ≤ n
  wk : ∀ c ∈ f.w, c ∈ lettersL
theorem fmS_ok {n k : Nat} {f : Fm} (h : FmOk n f) : FmOk (n + 1) (fmS f k) := by
  obtain ⟨h1, h2, h3, h4, h5, h6, h7⟩ := h
  unfold fmS
  split
  · rename_i hk
    refine ⟨by simp; omega, by simp; omega, h3, h4, by simp; omega, by simp; omega, fun c hc => ?_⟩
    rcases List.mem_append.mp hc with hc | hc
    · exact h7 c hc
    · rw [List.mem_singleton] at hc
      rw [hc]; exact hk
  split
  · exact ⟨by simp; omega, by simp; omega, by simp; omega, by simp; omega, by simp; omega, by simp; omega, h7⟩
  split
  · rename_i _ _ hw
    rw [hw] at h1
    simp at h1
    exact ⟨by simp [hw]; omega, by simp; omega, by simp; omega, by simp; omega, by simp; omega, by simp; omega, h7⟩
  · rename_i _ _ hw
    have hl : 0 < f.w.length := List.length_pos_iff.mpr hw
    refine ⟨by simp; omega, by simp; omega, by simp; omega, by simp; omega, by simp; omega, by simp; omega, fun c hc => h7 c (List.dropLast_subset _ hc)⟩
theorem fm_ok (ks : List Nat) : FmOk ks.length (fmF ks) := by
  induction ks using snoc_ind with
  | nil => exact ⟨rfl, Int.le_refl _, Int.le_refl _, Int.le_refl _, Nat.le_refl _, Nat.le_refl _, fun c hc => nomatch hc⟩
  | snoc ks k ih =>
    rw [fm_snoc, List.length_append]
    exact fmS_ok ih
def joinF (x y : Fm) : Fm := ⟨x.b + (y.b - x.w.length), x.w.take (x.w.length - y.b) ++ y.w, x.a + y.a, max x.d (x.s + y.d), x.s + y.s⟩
theorem fmS_join (x y : Fm) (k : Nat) : fmS (joinF x y) k = joinF x (fmS y k) := by
  unfold fmS
  split
  · unfold joinF
    simp only [List.append_assoc]
    congr 1
    omega
  split
  · unfold joinF
    congr 1
    all_goals dsimp only
    all_goals omega
  by_cases hw : y.w = []
  · rw [if_pos hw]
    by_cases hb : x.w.length ≤ y.b
    · have e0 : x.w.length - y.b = 0 := by omega
      have e1 : x.w.length - (y.b + 1) = 0 := by omega
      rw [if_pos (by show x.w.take _ ++ y.w = []; rw [hw, e0]; rfl)]
      unfold joinF
      simp only [hw, e0, e1]
      congr 1
      all_goals omega
    · have hlen : (x.w.take (x.w.length - y.b)).length = x.w.length - y.b := by rw [List.length_take]; omega
      rw [if_neg (by
        show ¬ x.w.take _ ++ y.w = []
        rw [hw, List.append_nil]
        intro e
        rw [e] at hlen
        simp at hlen
        omega)]
      unfold joinF
      simp only [hw, List.append_nil]
      rw [List.dropLast_eq_take, hlen, List.take_take]
      congr 1
      · omega
      · congr 1
        omega
      · omega
      · omega
  · rw [if_neg hw, if_neg (by
      show ¬ x.w.take _ ++ y.w = []
      intro e
      exact hw (List.append_eq_nil_iff.mp e).2)]
    unfold joinF
    simp only
    rw [List.dropLast_append_of_ne_nil hw]
    congr 1
    all_goals omega
theorem fm_app (x y : List Nat) : fmF (x ++ y) = joinF (fmF x) (fmF y) := by
  induction y using snoc_ind with
  | nil =>
    rw [List.append_nil]
    have h2 := (fm_ok x).sd
    show fmF x = joinF (fmF x) ⟨0, [], 0, 0, 0⟩
    generalize fmF x = f at h2 ⊢
    obtain ⟨b, w, a, d, s⟩ := f
    unfold joinF
    simp at h2 ⊢
    omega
  | snoc y k ih => rw [← List.append_assoc, fm_snoc, ih, fmS_join, fm_snoc]
theorem join_ok {n m : Nat} {x y : Fm} (hx : FmOk n x) (hy : FmOk m y) : FmOk (n + m) (joinF x y) := by
  obtain ⟨a1, a2, a3, a4, a5, a6, a7⟩ := hx
  obtain ⟨b1, b2, b3, b4, b5, b6, b7⟩ := hy
  unfold joinF
  refine ⟨?_, ?_, ?_, ?_, ?_, ?_, fun c hc => ?_⟩
  · dsimp only
    rw [List.length_append, List.length_take]
    omega
  · dsimp only; omega
  · dsimp only; omega
  · dsimp only; omega
  · dsimp only; omega
  · dsimp only
    rw [List.length_append, List.length_take]
    omega
  · rcases List.mem_append.mp hc with hc | hc
    · exact a7 c (List.mem_of_mem_take hc)
    · exact b7 c hc
theorem fold_ok {n : Nat} {f : Fm} {gs : List Fm} (hf : FmOk n f) (hg : ∀ g ∈ gs, FmOk n g) (i : Nat) : FmOk (n * (i + 1)) ((gs.take i).foldl joinF f) := by
  induction i with
  | zero => rw [Nat.zero_add, Nat.mul_one]; exact hf
  | succ i ih =>
    cases e : gs[i]? with
    | none =>
      have hl : gs.length ≤ i := List.getElem?_eq_none_iff.mp e
      rw [List.take_of_length_le (by omega)]
      rw [List.take_of_length_le hl] at ih
      obtain ⟨a1, a2, a3, a4, a5, a6, a7⟩ := ih
      have hle : n * (i + 1) ≤ n * (i + 1 + 1) := Nat.mul_le_mul_left _ (by omega)
      exact ⟨a1, a2, a3, a4, by omega, by omega, a7⟩
    | some g =>
      rw [take_get e, List.foldl_append, Nat.mul_succ]
      exact join_ok ih (hg g (List.mem_of_getElem? e))
theorem take_keys {l : List Nat} (h : l.all isKey = true) (n : Nat) : (l.take n).all isKey = true := List.all_eq_true.mpr fun x hx => List.all_eq_true.mp h x (List.mem_of_mem_take hx)
theorem kmul_of {l : List Nat} {n : Int} (A B : Nat) (hl : l.length ≤ A) (h0 : 0 ≤ n) (hn : n ≤ (B : Int)) (h : A * B ≤ 300 := by decide) (hA : A ≤ 300 := by decide) (hB : B ≤ 300 := by decide) : 0 ≤ n ∧ n < 2 ^ 400 ∧ (l.length : Int) * n ≤ 300 ∧ l.length ≤ 300 := by
  have e : (l.length : Int) * n ≤ (A : Int) * (B : Int) := Int.mul_le_mul (by omega) hn h0 (by omega)
  have e2 : ((A * B : Nat) : Int) ≤ 300 := by omega
  rw [Int.natCast_mul] at e2
  exact ⟨h0, by omega, by omega, by omega⟩
theorem repL_bd {l : List Nat} {n : Int} (A B : Nat) (hl : l.length ≤ A) (h0 : 0 ≤ n) (hn : n ≤ (B : Int)) : (repL l n).length ≤ A * B := by
  rw [repL_len, Nat.mul_comm]
  exact Nat.mul_le_mul hl (by omega)
theorem repL_add {α : Type} (l : List α) {m n : Int} (hm : 0 ≤ m) (hn : 0 ≤ n) : repL l (m + n) = repL l m ++ repL l n := by
  unfold repL
  rw [Int.toNat_add hm hn, ← List.replicate_append_replicate, List.flatten_append]
theorem repN_mul {α : Type} (l : List α) (a : Nat) : ∀ b : Nat, (List.replicate b (List.replicate a l).flatten).flatten = (List.replicate (a * b) l).flatten
  | 0 => by simp
  | b + 1 => by
    rw [List.replicate_succ, List.flatten_cons, repN_mul l a b, Nat.mul_succ, Nat.add_comm (a * b) a, ← List.replicate_append_replicate, List.flatten_append]
theorem repL_mul {α : Type} (l : List α) {m n : Int} (hm : 0 ≤ m) (hn : 0 ≤ n) : repL (repL l m) n = repL l (m * n) := by
  unfold repL
  rw [repN_mul, Int.toNat_mul hm hn]
theorem repL_one {α : Type} (l : List α) : repL l 1 = l := by simp [repL]
theorem repL_three {α : Type} (l : List α) : repL l 3 = (l ++ l) ++ l := by simp [repL, List.replicate]
theorem beg_right (a b : List Nat) : (decide (decide (b.take a.length = a) = false) || (decide (decide (a.take b.length = b) = false) || decide (a = b))) = true := by
  by_cases h1 : b.take a.length = a
  · by_cases h2 : a.take b.length = b
    · have e : a = b := by
        have l1 : a.length ≤ b.length := by
          have := congrArg List.length h1
          rw [List.length_take] at this
          omega
        have l2 : b.length ≤ a.length := by
          have := congrArg List.length h2
          rw [List.length_take] at this
          omega
        rw [List.take_of_length_le l2] at h1
        exact h1.symm
      simp [e]
    · simp [h2]
  · simp [h1]
abbrev stillC (c : Nat) : Prop := isKey c = true ∧ c ≠ 60 ∧ c ≠ 62
theorem still_of {x : Int} (h0 : 0 ≤ x) (h1 : x < 4) : ∃ so : List Nat, atI [D.str [97, 98, 45, 35], D.str [97, 98, 120, 121, 122, 45, 35], D.str [120, 45, 45, 35, 35], D.str [97, 113, 45, 35, 35, 45, 45, 35, 35]] x = some (.str so) ∧ (∀ c ∈ so, stillC c) ∧ 0 < so.length ∧ so.length ≤ 10 := by
  have : x = 0 ∨ x = 1 ∨ x = 2 ∨ x = 3 := by omega
  rcases this with rfl | rfl | rfl | rfl
  · exact ⟨_, rfl, by decide, by decide, by decide⟩
  · exact ⟨_, rfl, by decide, by decide, by decide⟩
  · exact ⟨_, rfl, by decide, by decide, by decide⟩
  · exact ⟨_, rfl, by decide, by decide, by decide⟩
theorem at_of {l : List Nat} {x : Int} (h0 : 0 ≤ x) (h1 : x < (l.length : Int)) : ∃ c ∈ l, atI l x = some c := by
  obtain ⟨n, rfl⟩ := Int.eq_ofNat_of_zero_le h0
  have hn : n < l.length := by omega
  exact ⟨l[n], List.getElem_mem hn, atI_lit n rfl (List.getElem?_eq_getElem hn)⟩
theorem still_keys {l : List Nat} (h : ∀ c ∈ l, stillC c) : l.all isKey = true := List.all_eq_true.mpr fun c hc => (h c hc).1
theorem still_no {l : List Nat} (h : ∀ c ∈ l, stillC c) : ∀ c ∈ l, c ≠ 60 ∧ c ≠ 62 := fun c hc => (h c hc).2
theorem still_app {l m : List Nat} (h : ∀ c ∈ l, stillC c) (h2 : ∀ c ∈ m, stillC c) : ∀ c ∈ l ++ m, stillC c := fun c hc => by
  rcases List.mem_append.mp hc with hc | hc
  · exact h c hc
  · exact h2 c hc
theorem fm_le {n m : Nat} {f : Fm} (h : FmOk n f) (hn : n ≤ m) : FmOk m f := by
  obtain ⟨a1, a2, a3, a4, a5, a6, a7⟩ := h
  exact ⟨a1, a2, a3, a4, by omega, by omega, a7⟩
theorem fm_okN {n : Nat} {f : Fm} (h : FmOk n f) : okN 8 (fmD f) = true := by
  have e : okN 7 (.str f.w) = true := okN_str fun c hc => by
    have := h.wk c hc
    simp at this
    omega
  unfold fmD
  rw [okN, okNs, okNs, okNs, okNs, okNs, e]
  rfl
theorem limit3 {i : Nat} (h : i < 3) : ∃ t : Int, atI [D.int 40, D.int 12, D.int 5] (0 + (i : Int)) = some (.int t) ∧ 0 ≤ t ∧ t ≤ 40 := by
  have : i = 0 ∨ i = 1 ∨ i = 2 := by omega
  rcases this with rfl | rfl | rfl
  · exact ⟨40, rfl, by decide, by decide⟩
  · exact ⟨12, rfl, by decide, by decide⟩
  · exact ⟨5, rfl, by decide, by decide⟩
theorem three_kw {C : Addr} {acc : List D} (h : Paired (fun (_ : Nat) d => ∃ l : List Nat, d = kw C l ∧ l.length ≤ 40 ∧ l.all isKey = true) (List.range (Int.toNat 3)) acc) : ∃ a b c : List Nat, acc = [kw C a, kw C b, kw C c] ∧ (a.length ≤ 40 ∧ a.all isKey = true) ∧ (b.length ≤ 40 ∧ b.all isKey = true) ∧ (c.length ≤ 40 ∧ c.all isKey = true) := by
  have e : List.range (Int.toNat 3) = [0, 1, 2] := rfl
  rw [e] at h
  match acc, h with
  | [x, y, z], .cons ⟨a, e1, h1⟩ (.cons ⟨b, e2, h2⟩ (.cons ⟨c, e3, h3⟩ .nil)) => exact ⟨a, b, c, by rw [e1, e2, e3], h1, h2, h3⟩
local macro_rules | `(tactic| walk_at "key") => `(tactic| first | assumption | rfl | exact repL_keys (by assumption) _ | exact still_keys (by assumption) | (simp only [List.all_append, List.all_reverse, *, Bool.and_self, Bool.and_true]; done) | decide)

section
variable {P : Program} {w : World} {K : PySem.W.Frag} {mg : Str → Option Value} {base : Heap}
abbrev s_is_integer : Stmt := top 19
abbrev N_is_integer : List Str := ["value", "low", "high"]
theorem sc_is_integer : FnScope N_is_integer ["value", "low", "high"] (defScope s_is_integer) := ⟨rfl, rfl, rfl, by decide +kernel, rfl, by decide +kernel, by decide +kernel⟩
def pd_is_integer : PD := fun ds O Q => ∃ (i lo : Int) (hi : Option Int), ds = [.int i, .int lo, hiD hi] ∧ O = [] ∧ Q (.bl (isInt i lo hi)) []
theorem ok_is_integer {f : Addr} {fd : FuncData} (Fn : Fun K "is_integer" "is_integer" s_is_integer f fd) (T : Bt mg) : FnOk P w K mg base CX0 1 f fd ["value", "low", "high"] (spD K pd_is_integer) := by
  refine ok_fun Fn sc_is_integer (fun ds O Q h => ?_) (fun cdv A outer s H E Z ds O Q hr h => ?_)
  · obtain ⟨i, lo, hi, rfl, rfl, h⟩ := h; rfl
  · obtain ⟨i, lo, hi, rfl, rfl, h⟩ := h
    rcases hi with _ | hi
    · skip
      refine wb_cons (ws_if ?_)
      refine wt_ww ?_
      apply ww_orD
      refine wt_not ?_
      refine wt_val ?_
      refine we_isi T.isinstance ?_
      refine we_var 0 rfl ?_
      refine we_bT (T := "int") T.int ?_
      walk_at "isi"
      refine wt_bl ?_
      refine ⟨fun e2 => ?_, ?_⟩
      · skip
        refine ww_or1 ?_
        refine wt_val ?_
        refine we_isi T.isinstance ?_
        refine we_var 0 rfl ?_
        refine we_bT (T := "bool") T.bool ?_
        walk_at "isi"
        refine wt_bl ?_
        exact ⟨rfl, rfl⟩
      refine ⟨fun eT4 => ?_, fun eT4 => ?_⟩
      · exact nomatch eT4
      refine wb_nil ?_
      refine wb_one (ws_ret ?_)
      apply we_andD
      refine we_C ?_
      refine we_var 0 rfl ?_
      refine we_var 1 rfl ?_
      walk_at ">="
      refine ⟨_, rfl, fun e6 => ?_, ?_⟩
      · skip
        refine we_one ?_
        apply we_orD (r := false)
        refine we_C ?_
        refine we_var 2 rfl ?_
        refine we_non ?_
        walk_at "is"
        refine ⟨_, rfl, fun e8 => ?_, ?_⟩
        · skip
          exact nomatch e8
        exact ⟨rfl, rfl⟩
      simpa [isInt, hiD, Dl.isNon] using h
    · skip
      refine wb_cons (ws_if ?_)
      refine wt_ww ?_
      apply ww_orD
      refine wt_not ?_
      refine wt_val ?_
      refine we_isi T.isinstance ?_
      refine we_var 0 rfl ?_
      refine we_bT (T := "int") T.int ?_
      walk_at "isi"
      refine wt_bl ?_
      refine ⟨fun e10 => ?_, ?_⟩
      · skip
        refine ww_or1 ?_
        refine wt_val ?_
        refine we_isi T.isinstance ?_
        refine we_var 0 rfl ?_
        refine we_bT (T := "bool") T.bool ?_
        walk_at "isi"
        refine wt_bl ?_
        exact ⟨rfl, rfl⟩
      refine ⟨fun eT12 => ?_, fun eT12 => ?_⟩
      · exact nomatch eT12
      refine wb_nil ?_
      refine wb_one (ws_ret ?_)
      apply we_andD
      refine we_C ?_
      refine we_var 0 rfl ?_
      refine we_var 1 rfl ?_
      walk_at ">="
      refine ⟨_, rfl, fun e14 => ?_, ?_⟩
      · skip
        refine we_one ?_
        apply we_orD
        refine we_C ?_
        refine we_var 2 rfl ?_
        refine we_non ?_
        walk_at "is"
        refine ⟨_, rfl, fun e16 => ?_, ?_⟩
        · skip
          refine we_one ?_
          refine we_C ?_
          refine we_var 0 rfl ?_
          refine we_var 2 rfl ?_
          walk_at "<="
          exact ⟨rfl, rfl⟩
        exact ⟨rfl, rfl⟩
      simpa [isInt, hiD, Dl.isNon] using h

abbrev s_is_key : Stmt := top 20
abbrev N_is_key : List Str := ["value"]
theorem sc_is_key : FnScope N_is_key ["value"] (defScope s_is_key) := ⟨rfl, rfl, rfl, by decide +kernel, rfl, by decide +kernel, by decide +kernel⟩
def pd_is_key : PD := fun ds O Q => ∃ c, ds = [.str [c]] ∧ O = [] ∧ Q (.bl (isKey c)) []
theorem ok_is_key {f : Addr} {fd : FuncData} (Fn : Fun K "is_key" "is_key" s_is_key f fd) (T : Bt mg) (G : Gs mg) : FnOk P w K mg base CX0 1 f fd ["value"] (spD K pd_is_key) := by
  refine ok_fun Fn sc_is_key (fun ds O Q h => ?_) (fun cdv A outer s H E Z ds O Q hr h => ?_)
  · obtain ⟨c, rfl, rfl, h⟩ := h; rfl
  · obtain ⟨c, rfl, rfl, h⟩ := h
    refine wb_one (ws_ret ?_)
    apply we_orD
    refine we_C ?_
    refine we_var 0 rfl ?_
    refine we_gS lettersL G.letters ?_
    walk_at "in"
    refine ⟨_, rfl, fun e2 => ?_, ?_⟩
    · skip
      refine we_one ?_
      refine we_C ?_
      refine we_var 0 rfl ?_
      refine we_tup ?_
      refine wa_cons ?_
      refine we_gS [45] G.bs ?_
      refine wa_cons ?_
      refine we_gS [35] G.del ?_
      refine wa_cons ?_
      refine we_gS [60] G.left ?_
      refine wa_cons ?_
      refine we_gS [62] G.right ?_
      refine wa_nil ?_
      refine ⟨by walk_at "sz", ?_⟩
      refine c_inT (ls := [[45], [35], [60], [62]]) (.inr rfl) ?_
      exact ⟨rfl, rfl⟩
    walk_at "ret"

abbrev s_is_keys : Stmt := top 21
abbrev N_is_keys : List Str := ["value", "sign"]
theorem sc_is_keys : FnScope N_is_keys ["value"] (defScope s_is_keys) := ⟨rfl, rfl, rfl, by decide +kernel, rfl, by decide +kernel, by decide +kernel⟩
def pd_is_keys : PD := fun ds O Q => ∃ l, ds = [.str l] ∧ l.length ≤ 100000 ∧ O = [] ∧ Q (.bl (l.all isKey)) []
theorem ok_is_keys {f : Addr} {fd : FuncData} (Fn : Fun K "is_keys" "is_keys" s_is_keys f fd) (T : Bt mg) {f_is_key : Addr} {fd_is_key : FuncData} (F_is_key : Fun K "is_key" "is_key" s_is_key f_is_key fd_is_key) (m_is_key : mg "is_key" = some (.ref f_is_key)) (G_is_key : FnOk P w K mg base CX0 1 f_is_key fd_is_key ["value"] (spD K pd_is_key)) : FnOk P w K mg base CX0 2 f fd ["value"] (spD K pd_is_keys) := by
  have b_is_key := F_is_key.binds (ps := ["value"]) fun _ _ _ _ _ _ us hl => match us, hl with | [_], _ => rfl
  refine ok_fun Fn sc_is_keys (fun ds O Q h => ?_) (fun cdv A outer s H E Z ds O Q hr h => ?_)
  · obtain ⟨l, rfl, hz, rfl, h⟩ := h; rfl
  · obtain ⟨l, rfl, hz, rfl, h⟩ := h
    refine wb_one (ws_ret ?_)
    apply we_andD
    refine we_isi T.isinstance ?_
    refine we_var 0 rfl ?_
    refine we_bT (T := "str") T.str ?_
    walk_at "isi"
    refine ⟨_, rfl, fun e2 => ?_, ?_⟩
    · skip
      refine we_one ?_
      refine we_all T.all ?_
      refine we_lcM (fun c => D.str [c]) (fun c => D.bl (isKey c)) (own := [("sign", 1)]) ?_ sc_is_keys.nd (blkOk_by (N := N_is_keys) (sc := defScope s_is_keys) (by decide +kernel))
      refine wi_str ?_
      refine we_var 0 rfl ?_
      refine ⟨_, rfl, ?_⟩
      refine ⟨_, rfl, by walk_at "ke", by walk_at "lclen", fun i a ha F' => ?_, ?_⟩
      · intro s0 H0 A0 cl0 fp0
        refine wg_name 1 ?_ sc_is_keys.nd
        intro s0 H0 A0 cl0 fp0
        refine we_callP G_is_key (hr.mono (by decide)) m_is_key F_is_key.kp b_is_key pass0 ?_
        refine wa_cons ?_
        refine we_var 1 rfl ?_
        refine wa_nil ?_
        refine cdp0 ⟨_, rfl, rfl, ?_⟩
        exact ⟨rfl, rfl⟩
      refine .inl ?_
      walk_at "all"
      exact ⟨rfl, rfl⟩
    walk_at "ret"

abbrev s_check_keys : Stmt := top 26
abbrev N_check_keys : List Str := ["keys"]
theorem sc_check_keys : FnScope N_check_keys ["keys"] (defScope s_check_keys) := ⟨rfl, rfl, rfl, by decide +kernel, rfl, by decide +kernel, by decide +kernel⟩
def pd_check_keys : PD := fun ds O Q => ∃ l, ds = [.str l] ∧ l.length ≤ 100000 ∧ l.all isKey = true ∧ O = [] ∧ Q .non []
theorem ok_check_keys {f : Addr} {fd : FuncData} (Fn : Fun K "check_keys" "check_keys" s_check_keys f fd) (T : Bt mg) {f_is_keys : Addr} {fd_is_keys : FuncData} (F_is_keys : Fun K "is_keys" "is_keys" s_is_keys f_is_keys fd_is_keys) (m_is_keys : mg "is_keys" = some (.ref f_is_keys)) (G_is_keys : FnOk P w K mg base CX0 2 f_is_keys fd_is_keys ["value"] (spD K pd_is_keys)) : FnOk P w K mg base CX0 3 f fd ["keys"] (spD K pd_check_keys) := by
  have b_is_keys := F_is_keys.binds (ps := ["value"]) fun _ _ _ _ _ _ us hl => match us, hl with | [_], _ => rfl
  refine ok_fun Fn sc_check_keys (fun ds O Q h => ?_) (fun cdv A outer s H E Z ds O Q hr h => ?_)
  · obtain ⟨l, rfl, hz, hk, rfl, h⟩ := h; rfl
  · obtain ⟨l, rfl, hz, hk, rfl, h⟩ := h
    refine wb_cons (ws_if ?_)
    refine wt_not ?_
    refine wt_val ?_
    refine we_callP G_is_keys (hr.mono (by decide)) m_is_keys F_is_keys.kp b_is_keys pass0 ?_
    refine wa_cons ?_
    refine we_var 0 rfl ?_
    refine wa_nil ?_
    refine cdp0 ⟨_, rfl, by walk_at "sz", rfl, ?_⟩
    refine wt_bl ?_
    refine ⟨fun eT2 => ?_, fun eT2 => ?_⟩
    · rw [hk] at eT2
      exact nomatch eT2
    refine wb_nil ?_
    refine wb_nil ?_
    walk_at "ret"

abbrev s_sums_of : Stmt := top 45
abbrev N_sums_of : List Str := ["keys", "sums", "key"]
theorem sc_sums_of : FnScope N_sums_of ["keys"] (defScope s_sums_of) := ⟨rfl, rfl, rfl, by decide +kernel, rfl, by decide +kernel, by decide +kernel⟩
def pd_sums_of : PD := fun ds O Q => ∃ l, ds = [.str l] ∧ l.length ≤ 100000 ∧ O = [] ∧ Q (.lst ((sumsF l).map D.int)) []
theorem ok_sums_of {f : Addr} {fd : FuncData} (Fn : Fun K "sums_of" "sums_of" s_sums_of f fd) (T : Bt mg) : FnOk P w K mg base CX0 1 f fd ["keys"] (spD K pd_sums_of) := by
  refine ok_fun Fn sc_sums_of (fun ds O Q h => ?_) (fun cdv A outer s H E Z ds O Q hr h => ?_)
  · obtain ⟨l, rfl, hz, rfl, h⟩ := h; rfl
  · obtain ⟨l, rfl, hz, rfl, h⟩ := h
    refine wb_cons (ws_set 1 ?_ sc_sums_of.nd)
    refine we_lst ?_
    refine wa_cons ?_
    refine we_int ?_
    refine wa_nil ?_
    refine ⟨by walk_at "sz", ?_⟩
    refine .inr fun ps nps => ?_
    refine wb_cons (ws_for [2] ?_)
    refine wi_str ?_
    refine we_var 0 rfl ?_
    refine ⟨_, rfl, ?_⟩
    refine ⟨fun i Γ' O' => ∃ t, Γ' = [_, some (.at ps), t] ∧ O' = [(ps, .lst ((sumsF (l.take i)).map D.int))], ⟨_, rfl, rfl⟩, fun _ _ _ _ => trivial, fun i d Γ' O' hd hI => ?_, fun Γ' O' hI => ?_⟩
    · obtain ⟨t, rfl, rfl⟩ := hI
      obtain ⟨kk, hkk, rfl⟩ := map_get hd
      have hne := sums_ne (l.take i)
      have hln := (sums_len (l.take i)).2
      rw [List.length_take] at hln
      refine wg_name 2 ?_ sc_sums_of.nd
      refine wb_cons (ws_if ?_)
      refine wt_C ?_
      refine we_var 2 rfl ?_
      refine we_str [45, 35] ?_
      walk_at "in"
      refine wt_bl ?_
      refine ⟨fun eT4 => ?_, fun eT4 => ?_⟩
      · have m1 : kk ∈ [45, 35] := by simpa using eT4
        refine wb_cons (ws_expr ?_)
        refine we_append ?_
        refine we_var 1 rfl ?_
        refine ⟨⟨_, by walk_at "vw"⟩, ?_⟩
        refine we_B ?_
        refine we_X ?_
        refine we_var 1 rfl ?_
        refine we_neg ?_
        refine we_int ?_
        refine ⟨_, rfl, ?_⟩
        refine ix_L (Vw.own (by walk_at "mem")) (last_int hne) ?_
        refine we_int ?_
        walk_at "+"
        refine ⟨_, 0, _, rfl, rfl, by rw [List.length_map, szl]; omega, ?_⟩
        refine wb_nil ?_
        refine wb_nil ?_
        have e1 : sumsF (l.take (i + 1)) = sumSt (sumsF (l.take i)) kk := by rw [take_get hkk, sums_snoc]
        first | exact ⟨_, rfl, by rw [e1, sumSt, if_pos m1, List.map_append]; rfl⟩ | exact ⟨_, rfl, by rw [e1, sumSt, if_neg m1, if_neg m2, List.map_append]; rfl⟩ | exact ⟨_, rfl, by rw [e1, sumSt, if_neg m1, if_pos m2]⟩
      have m1 : ¬ kk ∈ [45, 35] := by simpa using eT4
      refine wb_cons (ws_if ?_)
      refine wt_C ?_
      refine we_var 2 rfl ?_
      refine we_str [60, 62] ?_
      walk_at "notin"
      refine wt_bl ?_
      refine ⟨fun eT9 => ?_, fun eT9 => ?_⟩
      · have m2 : ¬ kk ∈ [60, 62] := by simpa using eT9
        refine wb_cons (ws_expr ?_)
        refine we_append ?_
        refine we_var 1 rfl ?_
        refine ⟨⟨_, by walk_at "vw"⟩, ?_⟩
        refine we_B ?_
        refine we_X ?_
        refine we_var 1 rfl ?_
        refine we_neg ?_
        refine we_int ?_
        refine ⟨_, rfl, ?_⟩
        refine ix_L (Vw.own (by walk_at "mem")) (last_int hne) ?_
        refine we_int ?_
        walk_at "-"
        refine ⟨_, 0, _, rfl, rfl, by rw [List.length_map, szl]; omega, ?_⟩
        refine wb_nil ?_
        refine wb_nil ?_
        refine wb_nil ?_
        have e1 : sumsF (l.take (i + 1)) = sumSt (sumsF (l.take i)) kk := by rw [take_get hkk, sums_snoc]
        first | exact ⟨_, rfl, by rw [e1, sumSt, if_pos m1, List.map_append]; rfl⟩ | exact ⟨_, rfl, by rw [e1, sumSt, if_neg m1, if_neg m2, List.map_append]; rfl⟩ | exact ⟨_, rfl, by rw [e1, sumSt, if_neg m1, if_pos m2]⟩
      have m2 : kk ∈ [60, 62] := by
        have h9 := eT9
        simp at h9 ⊢
        omega
      refine wb_nil ?_
      refine wb_nil ?_
      refine wb_nil ?_
      have e1 : sumsF (l.take (i + 1)) = sumSt (sumsF (l.take i)) kk := by rw [take_get hkk, sums_snoc]
      first | exact ⟨_, rfl, by rw [e1, sumSt, if_pos m1, List.map_append]; rfl⟩ | exact ⟨_, rfl, by rw [e1, sumSt, if_neg m1, if_neg m2, List.map_append]; rfl⟩ | exact ⟨_, rfl, by rw [e1, sumSt, if_neg m1, if_pos m2]⟩
    obtain ⟨t, rfl, rfl⟩ := hI
    rw [show (strD l).length = l.length from List.length_map _, List.take_length]
    refine wb_freeze 1 0 rfl rfl ?_
    refine wb_one (ws_ret ?_)
    refine we_var 1 rfl ?_
    walk_at "ret"

abbrev s_check_still : Stmt := top 36
abbrev N_check_still : List Str := ["keys", "key"]
theorem sc_check_still : FnScope N_check_still ["keys"] (defScope s_check_still) := ⟨rfl, rfl, rfl, by decide +kernel, rfl, by decide +kernel, by decide +kernel⟩
def pd_check_still : PD := fun ds O Q => ∃ l, ds = [.str l] ∧ l.length ≤ 100000 ∧ l.all isKey = true ∧ (∀ c ∈ l, c ≠ 60 ∧ c ≠ 62) ∧ O = [] ∧ Q .non []
theorem ok_check_still {f : Addr} {fd : FuncData} (Fn : Fun K "check_still" "check_still" s_check_still f fd) (T : Bt mg) (Gm : TupS K mg "MOVES" [[60], [62]]) {f_check_keys : Addr} {fd_check_keys : FuncData} (F_check_keys : Fun K "check_keys" "check_keys" s_check_keys f_check_keys fd_check_keys) (m_check_keys : mg "check_keys" = some (.ref f_check_keys)) (G_check_keys : FnOk P w K mg base CX0 3 f_check_keys fd_check_keys ["keys"] (spD K pd_check_keys)) : FnOk P w K mg base CX0 4 f fd ["keys"] (spD K pd_check_still) := by
  have b_check_keys := F_check_keys.binds (ps := ["keys"]) fun _ _ _ _ _ _ us hl => match us, hl with | [_], _ => rfl
  refine ok_fun Fn sc_check_still (fun ds O Q h => ?_) (fun cdv A outer s H E Z ds O Q hr h => ?_)
  · obtain ⟨l, rfl, hz, hk, hst, rfl, h⟩ := h; rfl
  · obtain ⟨l, rfl, hz, hk, hst, rfl, h⟩ := h
    refine wb_cons (ws_expr ?_)
    refine we_callP G_check_keys (hr.mono (by decide)) m_check_keys F_check_keys.kp b_check_keys pass0 ?_
    refine wa_cons ?_
    refine we_var 0 rfl ?_
    refine wa_nil ?_
    refine cdp0 ⟨_, rfl, by walk_at "sz", by walk_at "key", rfl, ?_⟩
    refine wb_cons (ws_if ?_)
    refine wt_val ?_
    refine we_any T.any ?_
    refine we_lcM (fun c => D.str [c]) (fun c => D.bl (decide ([c] ∈ [[60], [62]]))) (own := [("key", 1)]) ?_ sc_check_still.nd (blkOk_by (N := N_check_still) (sc := defScope s_check_still) (by decide +kernel))
    refine wi_str ?_
    refine we_var 0 rfl ?_
    refine ⟨_, rfl, ?_⟩
    refine ⟨_, rfl, by walk_at "ke", by walk_at "lclen", fun i a ha F' => ?_, ?_⟩
    · intro s0 H0 A0 cl0 fp0
      refine wg_name 1 ?_ sc_check_still.nd
      intro s0 H0 A0 cl0 fp0
      refine we_C ?_
      refine we_var 1 rfl ?_
      refine we_gT (ls := [[60], [62]]) Gm ?_
      refine c_inT (ls := [[60], [62]]) (.inr rfl) ?_
      exact ⟨rfl, rfl⟩
    refine .inl ?_
    walk_at "any"
    refine wt_bl ?_
    refine ⟨fun eT4 => ?_, fun eT4 => ?_⟩
    · exact absurd eT4 (by simp; intro x hx; have := hst x hx; omega)
    refine wb_nil ?_
    refine wb_nil ?_
    walk_at "ret"

abbrev s_is_form : Stmt := top 37
abbrev N_is_form : List Str := ["value", "back", "word", "ahead", "depth", "number", "letter"]
theorem sc_is_form : FnScope N_is_form ["value"] (defScope s_is_form) := ⟨rfl, rfl, rfl, by decide +kernel, rfl, by decide +kernel, by decide +kernel⟩
def pd_is_form : PD := fun ds O Q => ∃ f n, ds = [fmD f] ∧ FmOk n f ∧ n ≤ 100000 ∧ O = [] ∧ Q (.bl true) []
theorem ok_is_form {f : Addr} {fd : FuncData} (Fn : Fun K "is_form" "is_form" s_is_form f fd) (T : Bt mg) (G : Gs mg) {f_is_integer : Addr} {fd_is_integer : FuncData} (F_is_integer : Fun K "is_integer" "is_integer" s_is_integer f_is_integer fd_is_integer) (m_is_integer : mg "is_integer" = some (.ref f_is_integer)) (G_is_integer : FnOk P w K mg base CX0 1 f_is_integer fd_is_integer ["value", "low", "high"] (spD K pd_is_integer)) : FnOk P w K mg base CX0 2 f fd ["value"] (spD K pd_is_form) := by
  have b_is_integer := F_is_integer.binds (ps := ["value", "low", "high"]) fun _ _ _ _ _ _ us hl => match us, hl with | [_, _, _], _ => rfl
  refine ok_fun Fn sc_is_form (fun ds O Q h => ?_) (fun cdv A outer s H E Z ds O Q hr h => ?_)
  · obtain ⟨f', n, rfl, hf, hn, rfl, h⟩ := h; rfl
  · obtain ⟨f', n, rfl, hf, hn, rfl, h⟩ := h
    obtain ⟨q1, q2, q3, q4, q5, q6, q7⟩ := hf
    refine wb_cons (ws_if ?_)
    refine wt_ww ?_
    apply ww_orD
    refine wt_not ?_
    refine wt_val ?_
    refine we_isi T.isinstance ?_
    refine we_var 0 rfl ?_
    refine we_bT (T := "tuple") T.tuple ?_
    refine ⟨true, isi_of (y := fmD f') Vw.self rfl (by decide +kernel), ?_⟩
    refine wt_bl ?_
    refine ⟨fun e2 => ?_, ?_⟩
    · skip
      refine ww_or1 ?_
      refine wt_C ?_
      refine we_len T.len ?_
      refine we_var 0 rfl ?_
      refine ⟨_, .inr (.inr (.inl ⟨_, rfl, rfl⟩)), ?_⟩
      refine we_int ?_
      walk_at "!="
      refine wt_bl ?_
      exact ⟨rfl, rfl⟩
    refine ⟨fun eT5 => ?_, fun eT5 => ?_⟩
    · exact absurd eT5 (by simp)
    refine wb_nil ?_
    refine wb_cons (ws_unp (vs := [1, 2, 3, 4]) ?_)
    refine we_var 0 rfl ?_
    refine wg_tupN (wgs_cons (wg_name 1 (wgs_cons (wg_name 2 (wgs_cons (wg_name 3 (wgs_cons (wg_name 4 (wgs_nil ?_) sc_is_form.nd)) sc_is_form.nd)) sc_is_form.nd)) sc_is_form.nd))
    refine wb_cons (ws_if ?_)
    refine wt_not ?_
    refine wt_val ?_
    refine we_all T.all ?_
    refine we_lcM D.int (fun c => D.bl (isInt c 0 none)) (own := [("number", 5)]) ?_ sc_is_form.nd (blkOk_by (N := N_is_form) (sc := defScope s_is_form) (by decide +kernel))
    refine wi_tup ?_
    refine we_tup ?_
    refine wa_cons ?_
    refine we_var 1 rfl ?_
    refine wa_cons ?_
    refine we_var 3 rfl ?_
    refine wa_cons ?_
    refine we_var 4 rfl ?_
    refine wa_nil ?_
    refine ⟨by walk_at "sz", ?_⟩
    refine ⟨_, rfl, ?_⟩
    refine ⟨[(f'.b : Int), (f'.a : Int), f'.d], rfl, by walk_at "ke", by simp, fun i a ha F' => ?_, ?_⟩
    · intro s0 H0 A0 cl0 fp0
      refine wg_name 5 ?_ sc_is_form.nd
      intro s0 H0 A0 cl0 fp0
      refine we_callP G_is_integer (hr.mono (by decide)) m_is_integer F_is_integer.kp b_is_integer pass0 ?_
      refine wa_cons ?_
      refine we_var 5 rfl ?_
      refine wa_cons ?_
      refine we_int ?_
      refine wa_cons ?_
      refine we_non ?_
      refine wa_nil ?_
      refine cdp0 ⟨_, _, none, rfl, rfl, ?_⟩
      exact ⟨rfl, rfl⟩
    refine .inl ?_
    walk_at "all"
    refine wt_bl ?_
    refine ⟨fun eT9 => ?_, fun eT9 => ?_⟩
    · exact absurd eT9 (by simp [isInt]; omega)
    refine wb_nil ?_
    refine wb_cons (ws_if ?_)
    refine wt_ww ?_
    apply ww_orD
    refine wt_not ?_
    refine wt_val ?_
    refine we_isi T.isinstance ?_
    refine we_var 2 rfl ?_
    refine we_bT (T := "str") T.str ?_
    walk_at "isi"
    refine wt_bl ?_
    refine ⟨fun e11 => ?_, ?_⟩
    · skip
      refine ww_or1 ?_
      refine wt_not ?_
      refine wt_val ?_
      refine we_all T.all ?_
      refine we_lcM (fun c => D.str [c]) (fun c => D.bl (decide (c ∈ lettersL))) (own := [("letter", 6)]) ?_ sc_is_form.nd (blkOk_by (N := N_is_form) (sc := defScope s_is_form) (by decide +kernel))
      refine wi_str ?_
      refine we_var 2 rfl ?_
      refine ⟨_, rfl, ?_⟩
      refine ⟨_, rfl, by walk_at "ke", by walk_at "lclen", fun i a ha F' => ?_, ?_⟩
      · intro s0 H0 A0 cl0 fp0
        refine wg_name 6 ?_ sc_is_form.nd
        intro s0 H0 A0 cl0 fp0
        refine we_C ?_
        refine we_var 6 rfl ?_
        refine we_gS lettersL G.letters ?_
        walk_at "in"
        exact ⟨rfl, rfl⟩
      refine .inl ?_
      walk_at "all"
      refine wt_bl ?_
      exact ⟨rfl, rfl⟩
    refine ⟨fun eT14 => ?_, fun eT14 => ?_⟩
    · exact absurd eT14 (by rw [show f'.w.all (fun c => decide (c ∈ lettersL)) = true from List.all_eq_true.mpr fun c hc => decide_eq_true (q7 c hc)]; decide)
    refine wb_nil ?_
    refine wb_one (ws_ret ?_)
    apply we_chainN op_le op_le
    refine we_max2 T.max ?_
    refine we_var 1 rfl ?_
    refine we_B ?_
    refine we_B ?_
    refine we_var 3 rfl ?_
    refine we_var 1 rfl ?_
    walk_at "+"
    refine we_len T.len ?_
    refine we_var 2 rfl ?_
    walk_at "len"
    walk_at "-"
    refine ⟨_, _, rfl, rfl, ?_⟩
    refine ⟨rfl, ?_⟩
    refine we_var 4 rfl ?_
    refine ⟨rfl, fun e19 => ?_, ?_⟩
    · skip
      refine we_B ?_
      refine we_var 3 rfl ?_
      refine we_var 1 rfl ?_
      walk_at "+"
      exact ⟨rfl, rfl⟩
    rw [show (decide (max (f'.b : Int) ((f'.a : Int) + (f'.b : Int) - (f'.w.length : Int)) ≤ f'.d) && decide (f'.d ≤ (f'.a : Int) + (f'.b : Int))) = true from by simp; omega]
    exact h

abbrev s_check_form : Stmt := top 38
abbrev N_check_form : List Str := ["form"]
theorem sc_check_form : FnScope N_check_form ["form"] (defScope s_check_form) := ⟨rfl, rfl, rfl, by decide +kernel, rfl, by decide +kernel, by decide +kernel⟩
def pd_check_form : PD := fun ds O Q => ∃ f n, ds = [fmD f] ∧ FmOk n f ∧ n ≤ 100000 ∧ O = [] ∧ Q .non []
theorem ok_check_form {f : Addr} {fd : FuncData} (Fn : Fun K "check_form" "check_form" s_check_form f fd) (T : Bt mg) {f_is_form : Addr} {fd_is_form : FuncData} (F_is_form : Fun K "is_form" "is_form" s_is_form f_is_form fd_is_form) (m_is_form : mg "is_form" = some (.ref f_is_form)) (G_is_form : FnOk P w K mg base CX0 2 f_is_form fd_is_form ["value"] (spD K pd_is_form)) : FnOk P w K mg base CX0 3 f fd ["form"] (spD K pd_check_form) := by
  have b_is_form := F_is_form.binds (ps := ["value"]) fun _ _ _ _ _ _ us hl => match us, hl with | [_], _ => rfl
  refine ok_fun Fn sc_check_form (fun ds O Q h => ?_) (fun cdv A outer s H E Z ds O Q hr h => ?_)
  · obtain ⟨f', n, rfl, hf, hn, rfl, h⟩ := h; rfl
  · obtain ⟨f', n, rfl, hf, hn, rfl, h⟩ := h
    refine wb_cons (ws_if ?_)
    refine wt_not ?_
    refine wt_val ?_
    refine we_callP G_is_form (hr.mono (by decide)) m_is_form F_is_form.kp b_is_form pass0 ?_
    refine wa_cons ?_
    refine we_var 0 rfl ?_
    refine wa_nil ?_
    refine cdp0 ⟨_, _, rfl, by assumption, by omega, rfl, ?_⟩
    refine wt_bl ?_
    refine ⟨fun eT2 => ?_, fun eT2 => ?_⟩
    · exact nomatch eT2
    refine wb_nil ?_
    refine wb_nil ?_
    walk_at "ret"

abbrev s_form_from : Stmt := top 39
abbrev N_form_from : List Str := ["keys", "back", "word", "ahead", "depth", "surplus", "key"]
theorem sc_form_from : FnScope N_form_from ["keys"] (defScope s_form_from) := ⟨rfl, rfl, rfl, by decide +kernel, rfl, by decide +kernel, by decide +kernel⟩
def pd_form_from : PD := fun ds O Q => ∃ l, ds = [.str l] ∧ (l.length ≤ 100000 ∧ l.all isKey = true) ∧ O = [] ∧ Q (fmD (fmF l)) []
theorem ok_form_from {f : Addr} {fd : FuncData} (Fn : Fun K "form_from" "form_from" s_form_from f fd) (T : Bt mg) (G : Gs mg) : FnOk P w K mg base CX0 1 f fd ["keys"] (spD K pd_form_from) := by
  refine ok_fun Fn sc_form_from (fun ds O Q h => ?_) (fun cdv A outer s H E Z ds O Q hr h => ?_)
  · obtain ⟨l, rfl, ⟨hz, hk⟩, rfl, h⟩ := h; rfl
  · obtain ⟨l, rfl, ⟨hz, hk⟩, rfl, h⟩ := h
    refine wb_cons (ws_unp (vs := [1, 2, 3, 4]) ?_)
    refine we_tup ?_
    refine wa_cons ?_
    refine we_int ?_
    refine wa_cons ?_
    refine we_str [] ?_
    refine wa_cons ?_
    refine we_int ?_
    refine wa_cons ?_
    refine we_int ?_
    refine wa_nil ?_
    refine ⟨by walk_at "sz", ?_⟩
    refine wg_tupN (wgs_cons (wg_name 1 (wgs_cons (wg_name 2 (wgs_cons (wg_name 3 (wgs_cons (wg_name 4 (wgs_nil ?_) sc_form_from.nd)) sc_form_from.nd)) sc_form_from.nd)) sc_form_from.nd))
    refine wb_cons (ws_set 5 ?_ sc_form_from.nd)
    refine we_int ?_
    refine wb_cons (ws_for [6] ?_)
    refine wi_str ?_
    refine we_var 0 rfl ?_
    refine ⟨_, rfl, ?_⟩
    refine ⟨fun i Γ' O' => ∃ t, Γ' = [_, some (nD (fmF (l.take i)).b), some (.str (fmF (l.take i)).w), some (nD (fmF (l.take i)).a), some (.int (fmF (l.take i)).d), some (.int (fmF (l.take i)).s), t] ∧ O' = [], ⟨_, rfl, rfl⟩, fun _ _ _ _ => trivial, fun i d Γ' O' hd hI => ?_, fun Γ' O' hI => ?_⟩
    · obtain ⟨t, rfl, rfl⟩ := hI
      obtain ⟨kk, hkk, rfl⟩ := map_get hd
      have hfo := fm_ok (l.take i)
      have hwl := hfo.wl
      rw [List.length_take] at hwl
      refine wg_name 6 ?_ sc_form_from.nd
      refine wb_cons (ws_if ?_)
      refine wt_C ?_
      refine we_var 6 rfl ?_
      refine we_gS lettersL G.letters ?_
      walk_at "in"
      refine wt_bl ?_
      refine ⟨fun eT4 => ?_, fun eT4 => ?_⟩
      · have m1 : kk ∈ lettersL := by simpa using eT4
        refine wb_cons (ws_augS 2 rfl ?_ sc_form_from.nd)
        refine we_var 6 rfl ?_
        refine ⟨_, rfl, by rw [szl]; simp; omega, ?_⟩
        refine wb_cons (ws_augI (f := fun a b => a - b) 5 iop_sub rfl ?_ sc_form_from.nd)
        refine we_int ?_
        refine ⟨_, rfl, ?_⟩
        refine wb_nil ?_
        refine wb_nil ?_
        have e1 : fmF (l.take (i + 1)) = fmS (fmF (l.take i)) kk := by rw [take_get hkk, fm_snoc]
        first | exact ⟨_, by rw [e1, fmS, if_pos m1]; rfl, rfl⟩ | exact ⟨_, by rw [e1, fmS, if_neg m1, if_pos m2]; rfl, rfl⟩ | exact ⟨_, by rw [e1, fmS, if_neg m1, if_neg m2, if_pos m3]; rfl, rfl⟩ | exact ⟨_, by rw [e1, fmS, if_neg m1, if_neg m2, if_neg m3]; rfl, rfl⟩
      have m1 : ¬ kk ∈ lettersL := of_decide_eq_false eT4
      refine wb_cons (ws_augI (f := fun a b => a + b) 5 iop_add rfl ?_ sc_form_from.nd)
      refine we_int ?_
      refine ⟨_, rfl, ?_⟩
      refine wb_cons (ws_set 4 ?_ sc_form_from.nd)
      refine we_max2 T.max ?_
      refine we_var 4 rfl ?_
      refine we_var 5 rfl ?_
      refine ⟨_, _, rfl, rfl, ?_⟩
      refine wb_cons (ws_if ?_)
      refine wt_C ?_
      refine we_var 6 rfl ?_
      refine we_str [35] ?_
      walk_at "=="
      refine wt_bl ?_
      refine ⟨fun eT8 => ?_, fun eT8 => ?_⟩
      · have m2 : kk = 35 := by simpa using eT8
        refine wb_cons (ws_augI (f := fun a b => a + b) 3 iop_add rfl ?_ sc_form_from.nd)
        refine we_int ?_
        refine ⟨_, rfl, ?_⟩
        refine wb_nil ?_
        refine wb_nil ?_
        refine wb_nil ?_
        have e1 : fmF (l.take (i + 1)) = fmS (fmF (l.take i)) kk := by rw [take_get hkk, fm_snoc]
        first | exact ⟨_, by rw [e1, fmS, if_pos m1]; rfl, rfl⟩ | exact ⟨_, by rw [e1, fmS, if_neg m1, if_pos m2]; rfl, rfl⟩ | exact ⟨_, by rw [e1, fmS, if_neg m1, if_neg m2, if_pos m3]; rfl, rfl⟩ | exact ⟨_, by rw [e1, fmS, if_neg m1, if_neg m2, if_neg m3]; rfl, rfl⟩
      have m2 : ¬ kk = 35 := by simpa using eT8
      refine wb_cons (ws_if ?_)
      refine wt_C ?_
      refine we_var 2 rfl ?_
      refine we_str [] ?_
      walk_at "=="
      refine wt_bl ?_
      refine ⟨fun eT10 => ?_, fun eT10 => ?_⟩
      · have m3 : (fmF (l.take i)).w = [] := by simpa using eT10
        refine wb_cons (ws_augI (f := fun a b => a + b) 1 iop_add rfl ?_ sc_form_from.nd)
        refine we_int ?_
        refine ⟨_, rfl, ?_⟩
        refine wb_nil ?_
        refine wb_nil ?_
        refine wb_nil ?_
        refine wb_nil ?_
        have e1 : fmF (l.take (i + 1)) = fmS (fmF (l.take i)) kk := by rw [take_get hkk, fm_snoc]
        first | exact ⟨_, by rw [e1, fmS, if_pos m1]; rfl, rfl⟩ | exact ⟨_, by rw [e1, fmS, if_neg m1, if_pos m2]; rfl, rfl⟩ | exact ⟨_, by rw [e1, fmS, if_neg m1, if_neg m2, if_pos m3]; rfl, rfl⟩ | exact ⟨_, by rw [e1, fmS, if_neg m1, if_neg m2, if_neg m3]; rfl, rfl⟩
      have m3 : ¬ (fmF (l.take i)).w = [] := by simpa using eT10
      refine wb_cons (ws_set 2 ?_ sc_form_from.nd)
      refine we_S ?_
      refine we_var 2 rfl ?_
      refine wo_none ?_
      refine wo_some ?_
      refine we_neg ?_
      refine we_int ?_
      refine ⟨_, rfl, ?_⟩
      refine ⟨_, rfl, ?_⟩
      refine sx_S (by rw [szl]; omega) ?_
      rw [cut_init]
      refine wb_nil ?_
      refine wb_nil ?_
      refine wb_nil ?_
      refine wb_nil ?_
      have e1 : fmF (l.take (i + 1)) = fmS (fmF (l.take i)) kk := by rw [take_get hkk, fm_snoc]
      first | exact ⟨_, by rw [e1, fmS, if_pos m1]; rfl, rfl⟩ | exact ⟨_, by rw [e1, fmS, if_neg m1, if_pos m2]; rfl, rfl⟩ | exact ⟨_, by rw [e1, fmS, if_neg m1, if_neg m2, if_pos m3]; rfl, rfl⟩ | exact ⟨_, by rw [e1, fmS, if_neg m1, if_neg m2, if_neg m3]; rfl, rfl⟩
    obtain ⟨t, rfl, rfl⟩ := hI
    rw [show (strD l).length = l.length from List.length_map _, List.take_length]
    refine wb_one (ws_ret ?_)
    refine we_tup ?_
    refine wa_cons ?_
    refine we_var 1 rfl ?_
    refine wa_cons ?_
    refine we_var 2 rfl ?_
    refine wa_cons ?_
    refine we_var 3 rfl ?_
    refine wa_cons ?_
    refine we_var 4 rfl ?_
    refine wa_nil ?_
    refine ⟨by walk_at "sz", ?_⟩
    walk_at "ret"

abbrev s_form_of : Stmt := top 40
abbrev N_form_of : List Str := ["keys"]
theorem sc_form_of : FnScope N_form_of ["keys"] (defScope s_form_of) := ⟨rfl, rfl, rfl, by decide +kernel, rfl, by decide +kernel, by decide +kernel⟩
def pd_form_of : PD := fun ds O Q => ∃ l, ds = [.str l] ∧ (l.length ≤ 100000 ∧ l.all isKey = true ∧ ∀ c ∈ l, c ≠ 60 ∧ c ≠ 62) ∧ O = [] ∧ Q (fmD (fmF l)) []
theorem ok_form_of {f : Addr} {fd : FuncData} (Fn : Fun K "form_of" "form_of" s_form_of f fd) (T : Bt mg) {f_check_still : Addr} {fd_check_still : FuncData} (F_check_still : Fun K "check_still" "check_still" s_check_still f_check_still fd_check_still) (m_check_still : mg "check_still" = some (.ref f_check_still)) (G_check_still : FnOk P w K mg base CX0 4 f_check_still fd_check_still ["keys"] (spD K pd_check_still)) {f_form_from : Addr} {fd_form_from : FuncData} (F_form_from : Fun K "form_from" "form_from" s_form_from f_form_from fd_form_from) (m_form_from : mg "form_from" = some (.ref f_form_from)) (G_form_from : FnOk P w K mg base CX0 1 f_form_from fd_form_from ["keys"] (spD K pd_form_from)) : FnOk P w K mg base CX0 5 f fd ["keys"] (spD K pd_form_of) := by
  have b_check_still := F_check_still.binds (ps := ["keys"]) fun _ _ _ _ _ _ us hl => match us, hl with | [_], _ => rfl
  have b_form_from := F_form_from.binds (ps := ["keys"]) fun _ _ _ _ _ _ us hl => match us, hl with | [_], _ => rfl
  refine ok_fun Fn sc_form_of (fun ds O Q h => ?_) (fun cdv A outer s H E Z ds O Q hr h => ?_)
  · obtain ⟨l, rfl, ⟨hz, hk, hst⟩, rfl, h⟩ := h; rfl
  · obtain ⟨l, rfl, ⟨hz, hk, hst⟩, rfl, h⟩ := h
    refine wb_cons (ws_expr ?_)
    refine we_callP G_check_still (hr.mono (by decide)) m_check_still F_check_still.kp b_check_still pass0 ?_
    refine wa_cons ?_
    refine we_var 0 rfl ?_
    refine wa_nil ?_
    refine cdp0 ⟨_, rfl, by walk_at "sz", by walk_at "key", by assumption, rfl, ?_⟩
    refine wb_one (ws_ret ?_)
    refine we_callP G_form_from (hr.mono (by decide)) m_form_from F_form_from.kp b_form_from pass0 ?_
    refine wa_cons ?_
    refine we_var 0 rfl ?_
    refine wa_nil ?_
    refine cdp0 ⟨_, rfl, ⟨by walk_at "sz", by walk_at "key"⟩, rfl, ?_⟩
    walk_at "ret"

abbrev s_joined_two : Stmt := top 41
abbrev N_joined_two : List Str := ["form", "other", "back", "word", "ahead", "depth", "other_back", "other_word", "other_ahead", "other_depth", "surplus"]
theorem sc_joined_two : FnScope N_joined_two ["form", "other"] (defScope s_joined_two) := ⟨rfl, rfl, rfl, by decide +kernel, rfl, by decide +kernel, by decide +kernel⟩
def pd_joined_two : PD := fun ds O Q => ∃ f g n m, ds = [fmD f, fmD g] ∧ (FmOk n f ∧ FmOk m g ∧ n + m ≤ 100000) ∧ O = [] ∧ Q (fmD (joinF f g)) []
theorem ok_joined_two {f : Addr} {fd : FuncData} (Fn : Fun K "joined_two" "joined_two" s_joined_two f fd) (T : Bt mg) : FnOk P w K mg base CX0 1 f fd ["form", "other"] (spD K pd_joined_two) := by
  refine ok_fun Fn sc_joined_two (fun ds O Q h => ?_) (fun cdv A outer s H E Z ds O Q hr h => ?_)
  · obtain ⟨f', g, n, m, rfl, ⟨hf, hg, hn⟩, rfl, h⟩ := h; rfl
  · obtain ⟨f', g, n, m, rfl, ⟨hf, hg, hn⟩, rfl, h⟩ := h
    have f1 := hf.s
    have f2 := hf.wl
    have g2 := hg.wl
    refine wb_cons (ws_unp (vs := [2, 3, 4, 5]) ?_)
    refine we_var 0 rfl ?_
    refine wg_tupN (wgs_cons (wg_name 2 (wgs_cons (wg_name 3 (wgs_cons (wg_name 4 (wgs_cons (wg_name 5 (wgs_nil ?_) sc_joined_two.nd)) sc_joined_two.nd)) sc_joined_two.nd)) sc_joined_two.nd))
    skip
    refine wb_cons (ws_unp (vs := [6, 7, 8, 9]) ?_)
    refine we_var 1 rfl ?_
    refine wg_tupN (wgs_cons (wg_name 6 (wgs_cons (wg_name 7 (wgs_cons (wg_name 8 (wgs_cons (wg_name 9 (wgs_nil ?_) sc_joined_two.nd)) sc_joined_two.nd)) sc_joined_two.nd)) sc_joined_two.nd))
    refine wb_cons (ws_set 10 ?_ sc_joined_two.nd)
    refine we_B ?_
    refine we_B ?_
    refine we_var 2 rfl ?_
    refine we_var 4 rfl ?_
    walk_at "+"
    refine we_len T.len ?_
    refine we_var 3 rfl ?_
    walk_at "len"
    walk_at "-"
    refine wb_one (ws_ret ?_)
    refine we_tup ?_
    refine wa_cons ?_
    refine we_B ?_
    refine we_var 2 rfl ?_
    refine we_max2 T.max ?_
    refine we_int ?_
    refine we_B ?_
    refine we_var 6 rfl ?_
    refine we_len T.len ?_
    refine we_var 3 rfl ?_
    walk_at "len"
    walk_at "-"
    refine ⟨_, _, rfl, rfl, ?_⟩
    walk_at "+"
    refine wa_cons ?_
    refine we_B ?_
    refine we_S ?_
    refine we_var 3 rfl ?_
    refine wo_none ?_
    refine wo_some ?_
    refine we_max2 T.max ?_
    refine we_int ?_
    refine we_B ?_
    refine we_len T.len ?_
    refine we_var 3 rfl ?_
    walk_at "len"
    refine we_var 6 rfl ?_
    walk_at "-"
    refine ⟨_, _, rfl, rfl, ?_⟩
    refine ⟨_, rfl, ?_⟩
    refine sx_S (by rw [szl]; omega) ?_
    rw [show (max (0 : Int) ((f'.w.length : Int) - (g.b : Int))) = ((f'.w.length - g.b : Nat) : Int) from by omega, cut_to]
    refine we_var 7 rfl ?_
    refine b_addS (by rw [szl, List.length_take]; omega) ?_
    refine wa_cons ?_
    refine we_B ?_
    refine we_var 4 rfl ?_
    refine we_var 8 rfl ?_
    walk_at "+"
    refine wa_cons ?_
    refine we_max2 T.max ?_
    refine we_var 5 rfl ?_
    refine we_B ?_
    refine we_var 10 rfl ?_
    refine we_var 9 rfl ?_
    walk_at "+"
    refine ⟨_, _, rfl, rfl, ?_⟩
    refine wa_nil ?_
    refine ⟨by walk_at "sz", ?_⟩
    have e1 : fmD (joinF f' g) = .tup [.int ((f'.b : Int) + max 0 ((g.b : Int) - (f'.w.length : Int))), .str (f'.w.take (f'.w.length - g.b) ++ g.w), .int ((f'.a : Int) + (g.a : Int)), .int (max f'.d ((f'.b : Int) + (f'.a : Int) - (f'.w.length : Int) + g.d))] := by
      unfold fmD joinF nD
      dsimp only
      rw [show ((f'.b + (g.b - f'.w.length) : Nat) : Int) = (f'.b : Int) + max 0 ((g.b : Int) - (f'.w.length : Int)) from by omega, show ((f'.a + g.a : Nat) : Int) = (f'.a : Int) + (g.a : Int) from by omega, show f'.s + g.d = (f'.b : Int) + (f'.a : Int) - (f'.w.length : Int) + g.d from by omega]
    rw [e1] at h
    exact h

abbrev s_joined : Stmt := top 42
abbrev N_joined : List Str := ["form", "more", "other"]
theorem sc_joined : FnScope N_joined ["form", "more"] (defScope s_joined) := ⟨rfl, rfl, rfl, by decide +kernel, rfl, by decide +kernel, by decide +kernel⟩
def pd_joined : PD := fun ds O Q => ∃ (f : Fm) (gs : List Fm) (n : Nat), ds = [fmD f, .tup (gs.map fmD)] ∧ (FmOk n f ∧ (∀ g ∈ gs, FmOk n g) ∧ n ≤ 1000 ∧ gs.length ≤ 10) ∧ O = [] ∧ Q (fmD (gs.foldl joinF f)) []
theorem ok_joined {f : Addr} {fd : FuncData} (Fn : Fun K "joined" "joined" s_joined f fd) (T : Bt mg) {f_check_form : Addr} {fd_check_form : FuncData} (F_check_form : Fun K "check_form" "check_form" s_check_form f_check_form fd_check_form) (m_check_form : mg "check_form" = some (.ref f_check_form)) (G_check_form : FnOk P w K mg base CX0 3 f_check_form fd_check_form ["form"] (spD K pd_check_form)) {f_joined_two : Addr} {fd_joined_two : FuncData} (F_joined_two : Fun K "joined_two" "joined_two" s_joined_two f_joined_two fd_joined_two) (m_joined_two : mg "joined_two" = some (.ref f_joined_two)) (G_joined_two : FnOk P w K mg base CX0 1 f_joined_two fd_joined_two ["form", "other"] (spD K pd_joined_two)) : FnR P w K mg base CX0 4 f (spD K (starP 1 pd_joined)) := by
  have b_check_form := F_check_form.binds (ps := ["form"]) fun _ _ _ _ _ _ us hl => match us, hl with | [_], _ => rfl
  have b_joined_two := F_joined_two.binds (ps := ["form", "other"]) fun _ _ _ _ _ _ us hl => match us, hl with | [_, _], _ => rfl
  refine ok_star (ps := ["form"]) Fn sc_joined (fun kV doc pm an cdv ct => StX.bind_star1 (B := fun vs => bindArgs (PySem.W.fnOf _ _ _ _ _ .none kV doc pm an cdv ct) ⟨vs, []⟩) (fun _ => rfl) (fun _ _ _ => rfl)) (fun cdv A outer s H E Z ds O Q hr h => ?_)
  · obtain ⟨f', gs, n, rfl, ⟨hf, hg, hn, hgl⟩, rfl, h⟩ := h
    refine wb_cons (ws_expr ?_)
    refine we_callP G_check_form (hr.mono (by decide)) m_check_form F_check_form.kp b_check_form pass0 ?_
    refine wa_cons ?_
    refine we_var 0 rfl ?_
    refine wa_nil ?_
    refine cdp0 ⟨_, _, rfl, hf, by omega, rfl, ?_⟩
    refine wb_cons (ws_for [2] ?_)
    refine wi_tup ?_
    refine we_var 1 rfl ?_
    refine ⟨_, rfl, ?_⟩
    refine ⟨fun i Γ' O' => ∃ t, Γ' = [_, _, t] ∧ O' = [], ⟨_, rfl, rfl⟩, fun _ _ _ _ => trivial, fun i d Γ' O' hd hI => ?_, fun Γ' O' hI => ?_⟩
    · obtain ⟨t, rfl, rfl⟩ := hI
      obtain ⟨g, hgg, rfl⟩ := map_get hd
      refine wg_name 2 ?_ sc_joined.nd
      refine wb_cons (ws_expr ?_)
      refine we_callP G_check_form (hr.mono (by decide)) m_check_form F_check_form.kp b_check_form pass0 ?_
      refine wa_cons ?_
      refine we_var 2 rfl ?_
      refine wa_nil ?_
      refine cdp0 ⟨_, _, rfl, hg _ (List.mem_of_getElem? hgg), by omega, rfl, ?_⟩
      refine wb_nil ?_
      exact ⟨_, rfl, rfl⟩
    obtain ⟨t, rfl, rfl⟩ := hI
    refine wb_cons (ws_for [2] ?_)
    refine wi_tup ?_
    refine we_var 1 rfl ?_
    refine ⟨_, rfl, ?_⟩
    refine ⟨fun i Γ' O' => ∃ t, Γ' = [some (fmD ((gs.take i).foldl joinF f')), _, t] ∧ O' = [], ⟨_, rfl, rfl⟩, fun _ _ _ _ => trivial, fun i d Γ' O' hd hI => ?_, fun Γ' O' hI => ?_⟩
    · obtain ⟨t, rfl, rfl⟩ := hI
      obtain ⟨g, hgg, rfl⟩ := map_get hd
      have hi10 := (List.getElem?_eq_some_iff.mp hgg).1
      have hpre := fold_ok hf hg i
      refine wg_name 2 ?_ sc_joined.nd
      refine wb_cons (ws_set 0 ?_ sc_joined.nd)
      refine we_callP G_joined_two (hr.mono (by decide)) m_joined_two F_joined_two.kp b_joined_two pass0 ?_
      refine wa_cons ?_
      refine we_var 0 rfl ?_
      refine wa_cons ?_
      refine we_var 2 rfl ?_
      refine wa_nil ?_
      refine cdp0 ⟨_, _, n * (i + 1), n, rfl, ⟨hpre, hg _ (List.mem_of_getElem? hgg), ?_⟩, rfl, ?_⟩
      · have : n * (i + 1) ≤ 1000 * 11 := Nat.mul_le_mul hn (by omega)
        omega
      refine wb_nil ?_
      exact ⟨_, by rw [take_get hgg, List.foldl_append]; rfl, rfl⟩
    obtain ⟨t, rfl, rfl⟩ := hI
    rw [List.length_map, List.take_length]
    refine wb_one (ws_ret ?_)
    refine we_var 0 rfl ?_
    walk_at "ret"

abbrev s_far_run : Stmt := top 44
abbrev N_far_run : List Str := ["keys", "left_reach", "right_reach", "left", "right", "key"]
theorem sc_far_run : FnScope N_far_run ["keys"] (defScope s_far_run) := ⟨rfl, rfl, rfl, by decide +kernel, rfl, by decide +kernel, by decide +kernel⟩
def pd_far_run : PD := fun ds O Q => ∃ l, ds = [.str l] ∧ (l.length ≤ 100000 ∧ l.all isKey = true) ∧ O = [] ∧ Q (.tup [nD (farF l).lr, nD (farF l).rr, .lst (farF l).L, .lst (farF l).R]) []
theorem ok_far_run {f : Addr} {fd : FuncData} (Fn : Fun K "far_run" "far_run" s_far_run f fd) (T : Bt mg) : FnOk P w K mg base CX0 1 f fd ["keys"] (spD K pd_far_run) := by
  refine ok_fun Fn sc_far_run (fun ds O Q h => ?_) (fun cdv A outer s H E Z ds O Q hr h => ?_)
  · obtain ⟨l, rfl, ⟨hz, hk⟩, rfl, h⟩ := h; rfl
  · obtain ⟨l, rfl, ⟨hz, hk⟩, rfl, h⟩ := h
    refine wb_cons (ws_unp (vs := [1, 2]) ?_)
    refine we_tup ?_
    refine wa_cons ?_
    refine we_int ?_
    refine wa_cons ?_
    refine we_int ?_
    refine wa_nil ?_
    refine ⟨by walk_at "sz", ?_⟩
    refine wg_tupN (wgs_cons (wg_name 1 (wgs_cons (wg_name 2 (wgs_nil ?_) sc_far_run.nd)) sc_far_run.nd))
    refine wb_cons (ws_par 3 4 ?_ sc_far_run.nd)
    refine we_lst ?_
    refine wa_nil ?_
    refine ⟨by walk_at "sz", ?_⟩
    refine .inr fun pl npl => ?_
    refine we_lst ?_
    refine wa_nil ?_
    refine ⟨by walk_at "sz", ?_⟩
    refine .inr fun pr npr => ?_
    refine wb_cons (ws_for [5] ?_)
    refine wi_str ?_
    refine we_var 0 rfl ?_
    refine ⟨_, rfl, ?_⟩
    refine ⟨fun i Γ' O' => ∃ t, Γ' = [some (.str l), some (nD (farF (l.take i)).lr), some (nD (farF (l.take i)).rr), some (.at pl), some (.at pr), t] ∧ O' = [(pr, .lst (farF (l.take i)).R), (pl, .lst (farF (l.take i)).L)], ⟨_, rfl, rfl⟩, fun _ _ _ _ => trivial, fun i d Γ' O' hd hI => ?_, fun Γ' O' hI => ?_⟩
    · obtain ⟨t, rfl, rfl⟩ := hI
      obtain ⟨kk, hkk, rfl⟩ := map_get hd
      have hik := List.all_eq_true.mp hk kk (List.mem_of_getElem? hkk)
      have hok := far_ok (l.take i) (take_keys hk i)
      rw [List.length_take] at hok
      have hmin : min i l.length ≤ 100000 := by omega
      obtain ⟨st, hst⟩ : ∃ st, st = farF (l.take i) := ⟨_, rfl⟩
      rw [← hst] at hok ⊢
      obtain ⟨hA, neA⟩ := farA_ok kk hok
      obtain ⟨hB, neB, eB⟩ := farB_ok kk hA
      have neL : kk ∈ [45, 60] → (farB (farA st kk) kk).L ≠ [] := fun q => by rw [eB]; exact neA q
      have neR := neB
      have bL := hB.L
      have bR := hB.R
      have aL := hok.L
      have aR := hA.R
      refine wg_name 5 ?_ sc_far_run.nd
      refine wb_cut (fun Γ' O' => Γ' = [some (.str l), some (nD (farA st kk).lr), some (nD (farA st kk).rr), some (.at pl), some (.at pr), some (.str [kk])] ∧ O' = [(pr, .lst (farA st kk).R), (pl, .lst (farA st kk).L)]) ?_ ?_
      · skip
        refine ws_if ?_
        refine wt_ww ?_
        apply ww_andD
        refine wt_C ?_
        refine we_var 5 rfl ?_
        refine we_str [45, 60] ?_
        walk_at "in"
        refine wt_bl ?_
        refine ⟨fun e6 => ?_, ?_⟩
        · skip
          refine ww_and1 ?_
          refine wt_C ?_
          refine we_var 3 rfl ?_
          refine we_lst ?_
          refine wa_nil ?_
          refine ⟨by walk_at "sz", ?_⟩
          refine .inl ?_
          refine c_eqD (n := 8) (m := 8) (hu64 hr) (Vw.own (by walk_at "mem")) Vw.self (farD_okNs hok.dL) rfl ?_
          rw [eqL_empty]
          refine wt_bl ?_
          exact ⟨rfl, rfl⟩
        refine ⟨fun eT9 => ?_, fun eT9 => ?_⟩
        · have m1 : kk ∈ [45, 60] ∧ st.L.isEmpty = true := by
            have h9 := eT9
            rw [Bool.and_eq_true, decide_eq_true_iff] at h9
            exact h9
          refine wb_cons (ws_augI (f := fun a b => a + b) 1 iop_add rfl ?_ sc_far_run.nd)
          refine we_int ?_
          refine ⟨_, rfl, ?_⟩
          refine wb_cons (ws_expr ?_)
          refine we_append ?_
          refine we_var 3 rfl ?_
          refine ⟨⟨_, by walk_at "vw"⟩, ?_⟩
          refine we_B ?_
          refine we_int ?_
          refine we_var 1 rfl ?_
          walk_at "-"
          refine ⟨_, 1, _, rfl, rfl, by rw [szl]; omega, ?_⟩
          refine wb_nil ?_
          first | exact ⟨by rw [farA, if_pos m1]; walk_at "rf", by rw [farA, if_pos m1]; walk_at "rf"⟩ | exact ⟨by rw [farA, if_neg m1]; walk_at "rf", by rw [farA, if_neg m1]; walk_at "rf"⟩
        have m1 : ¬ (kk ∈ [45, 60] ∧ st.L.isEmpty = true) := fun c => by
          have h9 := eT9
          rw [decide_eq_true c.1, c.2] at h9
          exact nomatch h9
        refine wb_nil ?_
        first | exact ⟨by rw [farA, if_pos m1]; walk_at "rf", by rw [farA, if_pos m1]; walk_at "rf"⟩ | exact ⟨by rw [farA, if_neg m1]; walk_at "rf", by rw [farA, if_neg m1]; walk_at "rf"⟩
      intro Γ' O' hI
      obtain ⟨e1, e2⟩ := hI; subst e1; subst e2
      refine wb_cut (fun Γ' O' => Γ' = [some (.str l), some (nD (farB (farA st kk) kk).lr), some (nD (farB (farA st kk) kk).rr), some (.at pl), some (.at pr), some (.str [kk])] ∧ O' = [(pr, .lst (farB (farA st kk) kk).R), (pl, .lst (farB (farA st kk) kk).L)]) ?_ ?_
      · skip
        refine ws_if ?_
        refine wt_ww ?_
        apply ww_andD
        refine wt_C ?_
        refine we_var 5 rfl ?_
        refine we_str [35, 62] ?_
        walk_at "in"
        refine wt_bl ?_
        refine ⟨fun e13 => ?_, ?_⟩
        · skip
          refine ww_and1 ?_
          refine wt_C ?_
          refine we_var 4 rfl ?_
          refine we_lst ?_
          refine wa_nil ?_
          refine ⟨by walk_at "sz", ?_⟩
          refine .inl ?_
          refine c_eqD (n := 8) (m := 8) (hu64 hr) (Vw.own (by walk_at "mem")) Vw.self (farD_okNs hA.dR) rfl ?_
          rw [eqL_empty]
          refine wt_bl ?_
          exact ⟨rfl, rfl⟩
        refine ⟨fun eT16 => ?_, fun eT16 => ?_⟩
        · have m1 : kk ∈ [35, 62] ∧ (farA st kk).R.isEmpty = true := by
            have h9 := eT16
            rw [Bool.and_eq_true, decide_eq_true_iff] at h9
            exact h9
          refine wb_cons (ws_expr ?_)
          refine we_append ?_
          refine we_var 4 rfl ?_
          refine ⟨⟨_, by walk_at "vw"⟩, ?_⟩
          refine we_var 2 rfl ?_
          refine ⟨_, 0, _, rfl, rfl, by rw [szl]; omega, ?_⟩
          refine wb_cons (ws_augI (f := fun a b => a + b) 2 iop_add rfl ?_ sc_far_run.nd)
          refine we_int ?_
          refine ⟨_, rfl, ?_⟩
          refine wb_nil ?_
          first | exact ⟨by rw [farB, if_pos m1]; walk_at "rf", by rw [farB, if_pos m1]; walk_at "rf"⟩ | exact ⟨by rw [farB, if_neg m1]; walk_at "rf", by rw [farB, if_neg m1]; walk_at "rf"⟩
        have m1 : ¬ (kk ∈ [35, 62] ∧ (farA st kk).R.isEmpty = true) := fun c => by
          have h9 := eT16
          rw [decide_eq_true c.1, c.2] at h9
          exact nomatch h9
        refine wb_nil ?_
        first | exact ⟨by rw [farB, if_pos m1]; walk_at "rf", by rw [farB, if_pos m1]; walk_at "rf"⟩ | exact ⟨by rw [farB, if_neg m1]; walk_at "rf", by rw [farB, if_neg m1]; walk_at "rf"⟩
      intro Γ' O' hI
      obtain ⟨e1, e2⟩ := hI; subst e1; subst e2
      refine wb_cons (ws_if ?_)
      refine wt_C ?_
      refine we_var 5 rfl ?_
      refine we_str [45] ?_
      walk_at "=="
      refine wt_bl ?_
      refine ⟨fun eT19 => ?_, fun eT19 => ?_⟩
      · have k1 : kk = 45 := by simpa using eT19
        refine wb_cons (ws_expr ?_)
        refine we_pop ?_
        refine we_var 3 rfl ?_
        refine ⟨_, 1, _, _, rfl, rfl, last_D (neL (by simp [k1])), ?_⟩
        refine wb_nil ?_
        refine wb_nil ?_
        have e1 : farF (l.take (i + 1)) = farC (farB (farA st kk) kk) kk := by
          rw [take_get hkk, far_snoc, ← hst]
          rfl
        first | exact ⟨_, by rw [e1, farC, if_pos k1]; walk_at "rf", by rw [e1, farC, if_pos k1]; walk_at "rf"⟩ | exact ⟨_, by rw [e1, farC, if_neg k1, if_pos k2]; walk_at "rf", by rw [e1, farC, if_neg k1, if_pos k2]; walk_at "rf"⟩ | exact ⟨_, by rw [e1, farC, if_neg k1, if_neg k2, if_pos k3]; walk_at "rf", by rw [e1, farC, if_neg k1, if_neg k2, if_pos k3]; walk_at "rf"⟩ | exact ⟨_, by rw [e1, farC, if_neg k1, if_neg k2, if_neg k3, if_pos k4]; walk_at "rf", by rw [e1, farC, if_neg k1, if_neg k2, if_neg k3, if_pos k4]; walk_at "rf"⟩ | exact ⟨_, by rw [e1, farC, if_neg k1, if_neg k2, if_neg k3, if_neg k4]; walk_at "rf", by rw [e1, farC, if_neg k1, if_neg k2, if_neg k3, if_neg k4]; walk_at "rf"⟩
      have k1 : ¬ kk = 45 := by simpa using eT19
      refine wb_cons (ws_if ?_)
      refine wt_C ?_
      refine we_var 5 rfl ?_
      refine we_str [35] ?_
      walk_at "=="
      refine wt_bl ?_
      refine ⟨fun eT22 => ?_, fun eT22 => ?_⟩
      · have k2 : kk = 35 := by simpa using eT22
        refine wb_cons (ws_expr ?_)
        refine we_pop ?_
        refine we_var 4 rfl ?_
        refine ⟨_, 0, _, _, rfl, rfl, last_D (neR (by simp [k2])), ?_⟩
        refine wb_nil ?_
        refine wb_nil ?_
        refine wb_nil ?_
        have e1 : farF (l.take (i + 1)) = farC (farB (farA st kk) kk) kk := by
          rw [take_get hkk, far_snoc, ← hst]
          rfl
        first | exact ⟨_, by rw [e1, farC, if_pos k1]; walk_at "rf", by rw [e1, farC, if_pos k1]; walk_at "rf"⟩ | exact ⟨_, by rw [e1, farC, if_neg k1, if_pos k2]; walk_at "rf", by rw [e1, farC, if_neg k1, if_pos k2]; walk_at "rf"⟩ | exact ⟨_, by rw [e1, farC, if_neg k1, if_neg k2, if_pos k3]; walk_at "rf", by rw [e1, farC, if_neg k1, if_neg k2, if_pos k3]; walk_at "rf"⟩ | exact ⟨_, by rw [e1, farC, if_neg k1, if_neg k2, if_neg k3, if_pos k4]; walk_at "rf", by rw [e1, farC, if_neg k1, if_neg k2, if_neg k3, if_pos k4]; walk_at "rf"⟩ | exact ⟨_, by rw [e1, farC, if_neg k1, if_neg k2, if_neg k3, if_neg k4]; walk_at "rf", by rw [e1, farC, if_neg k1, if_neg k2, if_neg k3, if_neg k4]; walk_at "rf"⟩
      have k2 : ¬ kk = 35 := by simpa using eT22
      refine wb_cons (ws_if ?_)
      refine wt_C ?_
      refine we_var 5 rfl ?_
      refine we_str [60] ?_
      walk_at "=="
      refine wt_bl ?_
      refine ⟨fun eT25 => ?_, fun eT25 => ?_⟩
      · have k3 : kk = 60 := by simpa using eT25
        refine wb_cons (ws_expr ?_)
        refine we_append ?_
        refine we_var 4 rfl ?_
        refine ⟨⟨_, by walk_at "vw"⟩, ?_⟩
        refine we_pop ?_
        refine we_var 3 rfl ?_
        refine ⟨_, 1, _, _, rfl, rfl, last_D (neL (by simp [k3])), ?_⟩
        refine ⟨_, 0, _, rfl, rfl, by rw [szl]; omega, ?_⟩
        refine wb_nil ?_
        refine wb_nil ?_
        refine wb_nil ?_
        refine wb_nil ?_
        have e1 : farF (l.take (i + 1)) = farC (farB (farA st kk) kk) kk := by
          rw [take_get hkk, far_snoc, ← hst]
          rfl
        first | exact ⟨_, by rw [e1, farC, if_pos k1]; walk_at "rf", by rw [e1, farC, if_pos k1]; walk_at "rf"⟩ | exact ⟨_, by rw [e1, farC, if_neg k1, if_pos k2]; walk_at "rf", by rw [e1, farC, if_neg k1, if_pos k2]; walk_at "rf"⟩ | exact ⟨_, by rw [e1, farC, if_neg k1, if_neg k2, if_pos k3]; walk_at "rf", by rw [e1, farC, if_neg k1, if_neg k2, if_pos k3]; walk_at "rf"⟩ | exact ⟨_, by rw [e1, farC, if_neg k1, if_neg k2, if_neg k3, if_pos k4]; walk_at "rf", by rw [e1, farC, if_neg k1, if_neg k2, if_neg k3, if_pos k4]; walk_at "rf"⟩ | exact ⟨_, by rw [e1, farC, if_neg k1, if_neg k2, if_neg k3, if_neg k4]; walk_at "rf", by rw [e1, farC, if_neg k1, if_neg k2, if_neg k3, if_neg k4]; walk_at "rf"⟩
      have k3 : ¬ kk = 60 := by simpa using eT25
      refine wb_cons (ws_if ?_)
      refine wt_C ?_
      refine we_var 5 rfl ?_
      refine we_str [62] ?_
      walk_at "=="
      refine wt_bl ?_
      refine ⟨fun eT29 => ?_, fun eT29 => ?_⟩
      · have k4 : kk = 62 := by simpa using eT29
        refine wb_cons (ws_expr ?_)
        refine we_append ?_
        refine we_var 3 rfl ?_
        refine ⟨⟨_, by walk_at "vw"⟩, ?_⟩
        refine we_pop ?_
        refine we_var 4 rfl ?_
        refine ⟨_, 0, _, _, rfl, rfl, last_D (neR (by simp [k4])), ?_⟩
        refine ⟨_, 1, _, rfl, rfl, by rw [szl]; omega, ?_⟩
        refine wb_nil ?_
        refine wb_nil ?_
        refine wb_nil ?_
        refine wb_nil ?_
        refine wb_nil ?_
        have e1 : farF (l.take (i + 1)) = farC (farB (farA st kk) kk) kk := by
          rw [take_get hkk, far_snoc, ← hst]
          rfl
        first | exact ⟨_, by rw [e1, farC, if_pos k1]; walk_at "rf", by rw [e1, farC, if_pos k1]; walk_at "rf"⟩ | exact ⟨_, by rw [e1, farC, if_neg k1, if_pos k2]; walk_at "rf", by rw [e1, farC, if_neg k1, if_pos k2]; walk_at "rf"⟩ | exact ⟨_, by rw [e1, farC, if_neg k1, if_neg k2, if_pos k3]; walk_at "rf", by rw [e1, farC, if_neg k1, if_neg k2, if_pos k3]; walk_at "rf"⟩ | exact ⟨_, by rw [e1, farC, if_neg k1, if_neg k2, if_neg k3, if_pos k4]; walk_at "rf", by rw [e1, farC, if_neg k1, if_neg k2, if_neg k3, if_pos k4]; walk_at "rf"⟩ | exact ⟨_, by rw [e1, farC, if_neg k1, if_neg k2, if_neg k3, if_neg k4]; walk_at "rf", by rw [e1, farC, if_neg k1, if_neg k2, if_neg k3, if_neg k4]; walk_at "rf"⟩
      have k4 : ¬ kk = 62 := by simpa using eT29
      refine wb_cons (ws_expr ?_)
      refine we_append ?_
      refine we_var 3 rfl ?_
      refine ⟨⟨_, by walk_at "vw"⟩, ?_⟩
      refine we_var 5 rfl ?_
      refine ⟨_, 1, _, rfl, rfl, by rw [szl]; omega, ?_⟩
      refine wb_nil ?_
      refine wb_nil ?_
      refine wb_nil ?_
      refine wb_nil ?_
      refine wb_nil ?_
      have e1 : farF (l.take (i + 1)) = farC (farB (farA st kk) kk) kk := by
        rw [take_get hkk, far_snoc, ← hst]
        rfl
      first | exact ⟨_, by rw [e1, farC, if_pos k1]; walk_at "rf", by rw [e1, farC, if_pos k1]; walk_at "rf"⟩ | exact ⟨_, by rw [e1, farC, if_neg k1, if_pos k2]; walk_at "rf", by rw [e1, farC, if_neg k1, if_pos k2]; walk_at "rf"⟩ | exact ⟨_, by rw [e1, farC, if_neg k1, if_neg k2, if_pos k3]; walk_at "rf", by rw [e1, farC, if_neg k1, if_neg k2, if_pos k3]; walk_at "rf"⟩ | exact ⟨_, by rw [e1, farC, if_neg k1, if_neg k2, if_neg k3, if_pos k4]; walk_at "rf", by rw [e1, farC, if_neg k1, if_neg k2, if_neg k3, if_pos k4]; walk_at "rf"⟩ | exact ⟨_, by rw [e1, farC, if_neg k1, if_neg k2, if_neg k3, if_neg k4]; walk_at "rf", by rw [e1, farC, if_neg k1, if_neg k2, if_neg k3, if_neg k4]; walk_at "rf"⟩
    obtain ⟨t, rfl, rfl⟩ := hI
    rw [show (strD l).length = l.length from List.length_map _, List.take_length]
    refine wb_freeze 4 0 rfl rfl ?_
    refine wb_freeze 3 0 rfl rfl ?_
    refine wb_one (ws_ret ?_)
    refine we_tup ?_
    refine wa_cons ?_
    refine we_var 1 rfl ?_
    refine wa_cons ?_
    refine we_var 2 rfl ?_
    refine wa_cons ?_
    refine we_var 3 rfl ?_
    refine wa_cons ?_
    refine we_var 4 rfl ?_
    refine wa_nil ?_
    refine ⟨by walk_at "sz", ?_⟩
    walk_at "ret"

abbrev s_reach_of : Stmt := top 46
abbrev N_reach_of : List Str := ["keys"]
theorem sc_reach_of : FnScope N_reach_of ["keys"] (defScope s_reach_of) := ⟨rfl, rfl, rfl, by decide +kernel, rfl, by decide +kernel, by decide +kernel⟩
def pd_reach_of : PD := fun ds O Q => ∃ l, ds = [.str l] ∧ (l.length ≤ 100000 ∧ l.all isKey = true) ∧ O = [] ∧ Q (.tup [nD (farF l).lr, nD (farF l).rr]) []
theorem ok_reach_of {f : Addr} {fd : FuncData} (Fn : Fun K "reach_of" "reach_of" s_reach_of f fd) (T : Bt mg) {f_check_keys : Addr} {fd_check_keys : FuncData} (F_check_keys : Fun K "check_keys" "check_keys" s_check_keys f_check_keys fd_check_keys) (m_check_keys : mg "check_keys" = some (.ref f_check_keys)) (G_check_keys : FnOk P w K mg base CX0 3 f_check_keys fd_check_keys ["keys"] (spD K pd_check_keys)) {f_far_run : Addr} {fd_far_run : FuncData} (F_far_run : Fun K "far_run" "far_run" s_far_run f_far_run fd_far_run) (m_far_run : mg "far_run" = some (.ref f_far_run)) (G_far_run : FnOk P w K mg base CX0 1 f_far_run fd_far_run ["keys"] (spD K pd_far_run)) : FnOk P w K mg base CX0 4 f fd ["keys"] (spD K pd_reach_of) := by
  have b_check_keys := F_check_keys.binds (ps := ["keys"]) fun _ _ _ _ _ _ us hl => match us, hl with | [_], _ => rfl
  have b_far_run := F_far_run.binds (ps := ["keys"]) fun _ _ _ _ _ _ us hl => match us, hl with | [_], _ => rfl
  refine ok_fun Fn sc_reach_of (fun ds O Q h => ?_) (fun cdv A outer s H E Z ds O Q hr h => ?_)
  · obtain ⟨l, rfl, ⟨hz, hk⟩, rfl, h⟩ := h; rfl
  · obtain ⟨l, rfl, ⟨hz, hk⟩, rfl, h⟩ := h
    refine wb_cons (ws_expr ?_)
    refine we_callP G_check_keys (hr.mono (by decide)) m_check_keys F_check_keys.kp b_check_keys pass0 ?_
    refine wa_cons ?_
    refine we_var 0 rfl ?_
    refine wa_nil ?_
    refine cdp0 ⟨_, rfl, by walk_at "sz", by walk_at "key", rfl, ?_⟩
    refine wb_one (ws_ret ?_)
    refine we_S ?_
    refine we_callP G_far_run (hr.mono (by decide)) m_far_run F_far_run.kp b_far_run pass0 ?_
    refine wa_cons ?_
    refine we_var 0 rfl ?_
    refine wa_nil ?_
    refine cdp0 ⟨_, rfl, ⟨by walk_at "sz", by walk_at "key"⟩, rfl, ?_⟩
    refine wo_none ?_
    refine wo_some ?_
    refine we_int ?_
    refine ⟨_, rfl, ?_⟩
    walk_at "sl"
    walk_at "ret"

abbrev s_depth_of : Stmt := top 47
abbrev N_depth_of : List Str := ["keys"]
theorem sc_depth_of : FnScope N_depth_of ["keys"] (defScope s_depth_of) := ⟨rfl, rfl, rfl, by decide +kernel, rfl, by decide +kernel, by decide +kernel⟩
def pd_depth_of : PD := fun ds O Q => ∃ l, ds = [.str l] ∧ (l.length ≤ 100000 ∧ l.all isKey = true) ∧ O = [] ∧ ∀ m, IsMax (sumsF l) m → Q (.int m) []
theorem ok_depth_of {f : Addr} {fd : FuncData} (Fn : Fun K "depth_of" "depth_of" s_depth_of f fd) (T : Bt mg) {f_check_keys : Addr} {fd_check_keys : FuncData} (F_check_keys : Fun K "check_keys" "check_keys" s_check_keys f_check_keys fd_check_keys) (m_check_keys : mg "check_keys" = some (.ref f_check_keys)) (G_check_keys : FnOk P w K mg base CX0 3 f_check_keys fd_check_keys ["keys"] (spD K pd_check_keys)) {f_sums_of : Addr} {fd_sums_of : FuncData} (F_sums_of : Fun K "sums_of" "sums_of" s_sums_of f_sums_of fd_sums_of) (m_sums_of : mg "sums_of" = some (.ref f_sums_of)) (G_sums_of : FnOk P w K mg base CX0 1 f_sums_of fd_sums_of ["keys"] (spD K pd_sums_of)) : FnOk P w K mg base CX0 4 f fd ["keys"] (spD K pd_depth_of) := by
  have b_check_keys := F_check_keys.binds (ps := ["keys"]) fun _ _ _ _ _ _ us hl => match us, hl with | [_], _ => rfl
  have b_sums_of := F_sums_of.binds (ps := ["keys"]) fun _ _ _ _ _ _ us hl => match us, hl with | [_], _ => rfl
  refine ok_fun Fn sc_depth_of (fun ds O Q h => ?_) (fun cdv A outer s H E Z ds O Q hr h => ?_)
  · obtain ⟨l, rfl, ⟨hz, hk⟩, rfl, h⟩ := h; rfl
  · obtain ⟨l, rfl, ⟨hz, hk⟩, rfl, h⟩ := h
    refine wb_cons (ws_expr ?_)
    refine we_callP G_check_keys (hr.mono (by decide)) m_check_keys F_check_keys.kp b_check_keys pass0 ?_
    refine wa_cons ?_
    refine we_var 0 rfl ?_
    refine wa_nil ?_
    refine cdp0 ⟨_, rfl, by walk_at "sz", by walk_at "key", rfl, ?_⟩
    refine wb_one (ws_ret ?_)
    refine we_maxL T.max ?_
    refine we_callP G_sums_of (hr.mono (by decide)) m_sums_of F_sums_of.kp b_sums_of pass0 ?_
    refine wa_cons ?_
    refine we_var 0 rfl ?_
    refine wa_nil ?_
    refine cdp0 ⟨_, rfl, by walk_at "sz", rfl, ?_⟩
    refine ⟨_, Vw.self, (sums_len l).1, fun m hm hmx => ?_⟩
    exact h m ⟨hm, hmx⟩

abbrev s_net_of : Stmt := top 48
abbrev N_net_of : List Str := ["keys"]
theorem sc_net_of : FnScope N_net_of ["keys"] (defScope s_net_of) := ⟨rfl, rfl, rfl, by decide +kernel, rfl, by decide +kernel, by decide +kernel⟩
def pd_net_of : PD := fun ds O Q => ∃ l, ds = [.str l] ∧ (l.length ≤ 100000 ∧ l.all isKey = true) ∧ O = [] ∧ Q (.int (0 - netI l)) []
theorem ok_net_of {f : Addr} {fd : FuncData} (Fn : Fun K "net_of" "net_of" s_net_of f fd) (T : Bt mg) {f_check_keys : Addr} {fd_check_keys : FuncData} (F_check_keys : Fun K "check_keys" "check_keys" s_check_keys f_check_keys fd_check_keys) (m_check_keys : mg "check_keys" = some (.ref f_check_keys)) (G_check_keys : FnOk P w K mg base CX0 3 f_check_keys fd_check_keys ["keys"] (spD K pd_check_keys)) {f_sums_of : Addr} {fd_sums_of : FuncData} (F_sums_of : Fun K "sums_of" "sums_of" s_sums_of f_sums_of fd_sums_of) (m_sums_of : mg "sums_of" = some (.ref f_sums_of)) (G_sums_of : FnOk P w K mg base CX0 1 f_sums_of fd_sums_of ["keys"] (spD K pd_sums_of)) : FnOk P w K mg base CX0 4 f fd ["keys"] (spD K pd_net_of) := by
  have b_check_keys := F_check_keys.binds (ps := ["keys"]) fun _ _ _ _ _ _ us hl => match us, hl with | [_], _ => rfl
  have b_sums_of := F_sums_of.binds (ps := ["keys"]) fun _ _ _ _ _ _ us hl => match us, hl with | [_], _ => rfl
  refine ok_fun Fn sc_net_of (fun ds O Q h => ?_) (fun cdv A outer s H E Z ds O Q hr h => ?_)
  · obtain ⟨l, rfl, ⟨hz, hk⟩, rfl, h⟩ := h; rfl
  · obtain ⟨l, rfl, ⟨hz, hk⟩, rfl, h⟩ := h
    refine wb_cons (ws_expr ?_)
    refine we_callP G_check_keys (hr.mono (by decide)) m_check_keys F_check_keys.kp b_check_keys pass0 ?_
    refine wa_cons ?_
    refine we_var 0 rfl ?_
    refine wa_nil ?_
    refine cdp0 ⟨_, rfl, by walk_at "sz", by walk_at "key", rfl, ?_⟩
    refine wb_one (ws_ret ?_)
    refine we_B ?_
    refine we_int ?_
    refine we_X ?_
    refine we_callP G_sums_of (hr.mono (by decide)) m_sums_of F_sums_of.kp b_sums_of pass0 ?_
    refine wa_cons ?_
    refine we_var 0 rfl ?_
    refine wa_nil ?_
    refine cdp0 ⟨_, rfl, by walk_at "sz", rfl, ?_⟩
    refine we_neg ?_
    refine we_int ?_
    refine ⟨_, rfl, ?_⟩
    refine ix_L Vw.self (last_int (sums_ne l)) ?_
    walk_at "-"
    walk_at "ret"

end

section
variable {P : Program} {w : World} {K : PySem.W.Frag} {mg : Str → Option Value} {base : Heap}
abbrev s_K_init : Stmt := inClass (top 34) 0
abbrev N_K_init : List Str := ["self", "text"]
theorem sc_K_init : FnScope N_K_init ["self", "text"] (defScope s_K_init) := ⟨rfl, rfl, rfl, by decide +kernel, rfl, by decide +kernel, by decide +kernel⟩
def pd_K_init (C : Addr) : PD := fun ds O Q => ∃ p l, ds = [.at p, .str l] ∧ l.length ≤ 100000 ∧ l.all isKey = true ∧ O = [(p, .ins C [])] ∧ Q .non [(p, .ins C [("key_text", .str l)])]
theorem ok_K_init {f : Addr} {fd : FuncData} (Fn : Fun K "__init__" "Keys.__init__" s_K_init f fd) (T : Bt mg) {C gi gw pw ge gl gc gg ga gm gn gb gca : Addr} (kc : KC K mg C gi gw pw ge gl gc gg ga gm gn gb gca) {f_check_keys : Addr} {fd_check_keys : FuncData} (F_check_keys : Fun K "check_keys" "check_keys" s_check_keys f_check_keys fd_check_keys) (m_check_keys : mg "check_keys" = some (.ref f_check_keys)) (G_check_keys : FnOk P w K mg base CX0 3 f_check_keys fd_check_keys ["keys"] (spD K pd_check_keys)) : FnOk P w K mg base CX0 4 f fd ["self", "text"] (spD K (pd_K_init C)) := by
  have b_check_keys := F_check_keys.binds (ps := ["keys"]) fun _ _ _ _ _ _ us hl => match us, hl with | [_], _ => rfl
  refine ok_fun Fn sc_K_init (fun ds O Q h => ?_) (fun cdv A outer s H E Z ds O Q hr h => ?_)
  · obtain ⟨p, l, rfl, hz, hk, rfl, h⟩ := h; rfl
  · obtain ⟨p, l, rfl, hz, hk, rfl, h⟩ := h
    refine wb_cons (ws_expr ?_)
    refine we_callP G_check_keys (hr.mono (by decide)) m_check_keys F_check_keys.kp b_check_keys pass0 ?_
    refine wa_cons ?_
    refine we_var 1 rfl ?_
    refine wa_nil ?_
    refine cdp0 ⟨_, rfl, by walk_at "sz", by walk_at "key", rfl, ?_⟩
    refine wb_cons (ws_fld kc.cl kc.nf ?_)
    refine we_var 1 rfl ?_
    refine we_var 0 rfl ?_
    refine ⟨_, 0, _, rfl, rfl, by decide, ?_⟩
    refine wb_nil ?_
    walk_at "ret"

abbrev s_K_written : Stmt := inClass (top 34) 1
abbrev N_K_written : List Str := ["self"]
theorem sc_K_written : FnScope N_K_written ["self"] (defScope s_K_written) := ⟨rfl, rfl, rfl, by decide +kernel, rfl, by decide +kernel, by decide +kernel⟩
def pd_K_written (C : Addr) : PD := fun ds O Q => ∃ l, ds = [kw C l] ∧ O = [] ∧ Q (.str l) []
theorem ok_K_written {f : Addr} {fd : FuncData} (Fn : Fun K "written" "Keys.written" s_K_written f fd) (T : Bt mg) {C gi gw pw ge gl gc gg ga gm gn gb gca : Addr} (kc : KC K mg C gi gw pw ge gl gc gg ga gm gn gb gca) : FnOk P w K mg base CX0 1 f fd ["self"] (spD K (pd_K_written C)) := by
  refine ok_fun Fn sc_K_written (fun ds O Q h => ?_) (fun cdv A outer s H E Z ds O Q hr h => ?_)
  · obtain ⟨l, rfl, rfl, h⟩ := h; rfl
  · obtain ⟨l, rfl, rfl, h⟩ := h
    refine wb_one (ws_ret ?_)
    refine we_fld kc.cl kc.nf ?_
    refine we_var 0 rfl ?_
    refine ⟨_, _, InsD.self, look_here, ?_⟩
    walk_at "ret"

abbrev s_K_eq : Stmt := inClass (top 34) 2
abbrev N_K_eq : List Str := ["self", "other"]
theorem sc_K_eq : FnScope N_K_eq ["self", "other"] (defScope s_K_eq) := ⟨rfl, rfl, rfl, by decide +kernel, rfl, by decide +kernel, by decide +kernel⟩
def pd_K_eq (C : Addr) : PD := fun ds O Q => ∃ l m, ds = [kw C l, kw C m] ∧ O = [] ∧ Q (.bl (decide (l = m))) []
theorem ok_K_eq {f : Addr} {fd : FuncData} (Fn : Fun K "__eq__" "Keys.__eq__" s_K_eq f fd) (T : Bt mg) {C gi gw pw ge gl gc gg ga gm gn gb gca : Addr} (kc : KC K mg C gi gw pw ge gl gc gg ga gm gn gb gca) : FnOk P w K mg base CX0 1 f fd ["self", "other"] (spD K (pd_K_eq C)) := by
  refine ok_fun Fn sc_K_eq (fun ds O Q h => ?_) (fun cdv A outer s H E Z ds O Q hr h => ?_)
  · obtain ⟨l, m, rfl, rfl, h⟩ := h; rfl
  · obtain ⟨l, m, rfl, rfl, h⟩ := h
    refine wb_one (ws_ret ?_)
    apply we_andD
    refine we_isi T.isinstance ?_
    refine we_var 1 rfl ?_
    refine we_gR kc.m ?_
    refine ⟨true, isi_ins kc.ity (.own C) kit_self, ?_⟩
    refine ⟨_, rfl, fun e2 => ?_, ?_⟩
    · skip
      refine we_one ?_
      refine we_C ?_
      refine we_fld kc.cl kc.nf ?_
      refine we_var 0 rfl ?_
      refine ⟨_, _, InsD.self, look_here, ?_⟩
      refine we_fld kc.cl kc.nf ?_
      refine we_var 1 rfl ?_
      refine ⟨_, _, InsD.self, look_here, ?_⟩
      walk_at "=="
      exact ⟨rfl, rfl⟩
    walk_at "ret"

abbrev s_K_len : Stmt := inClass (top 34) 3
abbrev N_K_len : List Str := ["self"]
theorem sc_K_len : FnScope N_K_len ["self"] (defScope s_K_len) := ⟨rfl, rfl, rfl, by decide +kernel, rfl, by decide +kernel, by decide +kernel⟩
def pd_K_len (C : Addr) : PD := fun ds O Q => ∃ l, ds = [kw C l] ∧ l.length ≤ 100000 ∧ O = [] ∧ Q (.int l.length) []
theorem ok_K_len {f : Addr} {fd : FuncData} (Fn : Fun K "__len__" "Keys.__len__" s_K_len f fd) (T : Bt mg) {C gi gw pw ge gl gc gg ga gm gn gb gca : Addr} (kc : KC K mg C gi gw pw ge gl gc gg ga gm gn gb gca) : FnOk P w K mg base CX0 1 f fd ["self"] (spD K (pd_K_len C)) := by
  refine ok_fun Fn sc_K_len (fun ds O Q h => ?_) (fun cdv A outer s H E Z ds O Q hr h => ?_)
  · obtain ⟨l, rfl, hz, rfl, h⟩ := h; rfl
  · obtain ⟨l, rfl, hz, rfl, h⟩ := h
    refine wb_one (ws_ret ?_)
    refine we_len T.len ?_
    refine we_fld kc.cl kc.nf ?_
    refine we_var 0 rfl ?_
    refine ⟨_, _, InsD.self, look_here, ?_⟩
    walk_at "len"
    walk_at "ret"

abbrev s_K_contains : Stmt := inClass (top 34) 4
abbrev N_K_contains : List Str := ["self", "key"]
theorem sc_K_contains : FnScope N_K_contains ["self", "key"] (defScope s_K_contains) := ⟨rfl, rfl, rfl, by decide +kernel, rfl, by decide +kernel, by decide +kernel⟩
def pd_K_contains (C : Addr) : PD := fun ds O Q => ∃ l c, ds = [kw C l, .str [c]] ∧ O = [] ∧ Q (.bl (decide (c ∈ l))) []
theorem ok_K_contains {f : Addr} {fd : FuncData} (Fn : Fun K "__contains__" "Keys.__contains__" s_K_contains f fd) (T : Bt mg) {C gi gw pw ge gl gc gg ga gm gn gb gca : Addr} (kc : KC K mg C gi gw pw ge gl gc gg ga gm gn gb gca) : FnOk P w K mg base CX0 1 f fd ["self", "key"] (spD K (pd_K_contains C)) := by
  refine ok_fun Fn sc_K_contains (fun ds O Q h => ?_) (fun cdv A outer s H E Z ds O Q hr h => ?_)
  · obtain ⟨l, c, rfl, rfl, h⟩ := h; rfl
  · obtain ⟨l, c, rfl, rfl, h⟩ := h
    refine wb_one (ws_ret ?_)
    apply we_andD
    refine we_isi T.isinstance ?_
    refine we_var 1 rfl ?_
    refine we_bT (T := "str") T.str ?_
    walk_at "isi"
    refine ⟨_, rfl, fun e2 => ?_, ?_⟩
    · skip
      apply we_andD
      refine we_C ?_
      refine we_len T.len ?_
      refine we_var 1 rfl ?_
      walk_at "len"
      refine we_int ?_
      walk_at "=="
      refine ⟨_, rfl, fun e5 => ?_, ?_⟩
      · skip
        refine we_one ?_
        refine we_C ?_
        refine we_var 1 rfl ?_
        refine we_fld kc.cl kc.nf ?_
        refine we_var 0 rfl ?_
        refine ⟨_, _, InsD.self, look_here, ?_⟩
        walk_at "in"
        exact ⟨rfl, rfl⟩
      exact ⟨rfl, rfl⟩
    walk_at "ret"

abbrev s_K_getitem : Stmt := inClass (top 34) 5
abbrev N_K_getitem : List Str := ["self", "at"]
theorem sc_K_getitem : FnScope N_K_getitem ["self", "at"] (defScope s_K_getitem) := ⟨rfl, rfl, rfl, by decide +kernel, rfl, by decide +kernel, by decide +kernel⟩
def pd_K_getitem (C : Addr) : PD := fun ds O Q => ∃ (l : List Nat) (i : Nat) (c : Nat), ds = [kw C l, .int i] ∧ l.length ≤ 100000 ∧ l[i]? = some c ∧ O = [] ∧ Q (.str [c]) []
theorem ok_K_getitem {f : Addr} {fd : FuncData} (Fn : Fun K "__getitem__" "Keys.__getitem__" s_K_getitem f fd) (T : Bt mg) {C gi gw pw ge gl gc gg ga gm gn gb gca : Addr} (kc : KC K mg C gi gw pw ge gl gc gg ga gm gn gb gca) {f_is_integer : Addr} {fd_is_integer : FuncData} (F_is_integer : Fun K "is_integer" "is_integer" s_is_integer f_is_integer fd_is_integer) (m_is_integer : mg "is_integer" = some (.ref f_is_integer)) (G_is_integer : FnOk P w K mg base CX0 1 f_is_integer fd_is_integer ["value", "low", "high"] (spD K pd_is_integer)) : FnOk P w K mg base CX0 2 f fd ["self", "at"] (spD K (pd_K_getitem C)) := by
  have b_is_integer := F_is_integer.binds (ps := ["value", "low", "high"]) fun _ _ _ _ _ _ us hl => match us, hl with | [_, _, _], _ => rfl
  refine ok_fun Fn sc_K_getitem (fun ds O Q h => ?_) (fun cdv A outer s H E Z ds O Q hr h => ?_)
  · obtain ⟨l, i, c, rfl, hz, hi, rfl, h⟩ := h; rfl
  · obtain ⟨l, i, c, rfl, hz, hi, rfl, h⟩ := h
    have hlt := (List.getElem?_eq_some_iff.mp hi).1
    refine wb_cons (ws_if ?_)
    refine wt_not ?_
    refine wt_val ?_
    refine we_callP G_is_integer (hr.mono (by decide)) m_is_integer F_is_integer.kp b_is_integer pass0 ?_
    refine wa_cons ?_
    refine we_var 1 rfl ?_
    refine wa_cons ?_
    refine we_int ?_
    refine wa_cons ?_
    refine we_B ?_
    refine we_len T.len ?_
    refine we_fld kc.cl kc.nf ?_
    refine we_var 0 rfl ?_
    refine ⟨_, _, InsD.self, look_here, ?_⟩
    walk_at "len"
    refine we_int ?_
    walk_at "-"
    refine wa_nil ?_
    refine cdp0 ⟨_, _, some _, rfl, rfl, ?_⟩
    refine wt_bl ?_
    refine ⟨fun eT5 => ?_, fun eT5 => ?_⟩
    · exact absurd eT5 (by simp [isInt]; omega)
    refine wb_nil ?_
    refine wb_one (ws_ret ?_)
    refine we_X ?_
    refine we_fld kc.cl kc.nf ?_
    refine we_var 0 rfl ?_
    refine ⟨_, _, InsD.self, look_here, ?_⟩
    refine we_var 1 rfl ?_
    refine ix_S (by walk_at "sz") (atI_lit i rfl hi) ?_
    walk_at "ret"

abbrev s_K_add : Stmt := inClass (top 34) 7
abbrev N_K_add : List Str := ["self", "other"]
theorem sc_K_add : FnScope N_K_add ["self", "other"] (defScope s_K_add) := ⟨rfl, rfl, rfl, by decide +kernel, rfl, by decide +kernel, by decide +kernel⟩
def pd_K_add (C : Addr) : PD := fun ds O Q => ∃ l m, ds = [kw C l, kw C m] ∧ l.length + m.length ≤ 300 ∧ l.all isKey = true ∧ m.all isKey = true ∧ O = [] ∧ Q (kw C (l ++ m)) []
theorem ok_K_add {f : Addr} {fd : FuncData} (Fn : Fun K "__add__" "Keys.__add__" s_K_add f fd) (T : Bt mg) {C gi gw pw ge gl gc gg ga gm gn gb gca : Addr} (kc : KC K mg C gi gw pw ge gl gc gg ga gm gn gb gca) {fd_K_init : FuncData} (F_K_init : Fun K "__init__" "Keys.__init__" s_K_init gi fd_K_init) (G_K_init : FnOk P w K mg base CX0 4 gi fd_K_init ["self", "text"] (spD K (pd_K_init C))) : FnOk P w K mg base CX0 8 f fd ["self", "other"] (spD K (pd_K_add C)) := by
  have b_K_init := F_K_init.binds (ps := ["self", "text"]) fun _ _ _ _ _ _ us hl => match us, hl with | [_, _], _ => rfl
  refine ok_fun Fn sc_K_add (fun ds O Q h => ?_) (fun cdv A outer s H E Z ds O Q hr h => ?_)
  · obtain ⟨l, m, rfl, hz, hk, hk2, rfl, h⟩ := h; rfl
  · obtain ⟨l, m, rfl, hz, hk, hk2, rfl, h⟩ := h
    refine wb_cons (ws_if ?_)
    refine wt_not ?_
    refine wt_val ?_
    refine we_isi T.isinstance ?_
    refine we_var 1 rfl ?_
    refine we_gR kc.m ?_
    refine ⟨true, isi_ins kc.ity (.own C) kit_self, ?_⟩
    refine wt_bl ?_
    refine ⟨fun eT2 => ?_, fun eT2 => ?_⟩
    · exact nomatch eT2
    refine wb_nil ?_
    refine wb_cons (ws_if ?_)
    refine wt_C ?_
    refine we_B ?_
    refine we_len T.len ?_
    refine we_fld kc.cl kc.nf ?_
    refine we_var 0 rfl ?_
    refine ⟨_, _, InsD.self, look_here, ?_⟩
    walk_at "len"
    refine we_len T.len ?_
    refine we_fld kc.cl kc.nf ?_
    refine we_var 1 rfl ?_
    refine ⟨_, _, InsD.self, look_here, ?_⟩
    walk_at "len"
    walk_at "+"
    refine we_gI kc.most ?_
    walk_at ">"
    refine wt_bl ?_
    refine ⟨fun eT9 => ?_, fun eT9 => ?_⟩
    · exact absurd eT9 (by simp; omega)
    refine wb_nil ?_
    refine wb_one (ws_ret ?_)
    refine we_make kc.mki G_K_init (hr.mono (by decide)) kc.m b_K_init pass0 ?_
    refine wa_cons ?_
    refine we_B ?_
    refine we_fld kc.cl kc.nf ?_
    refine we_var 0 rfl ?_
    refine ⟨_, _, InsD.self, look_here, ?_⟩
    refine we_fld kc.cl kc.nf ?_
    refine we_var 1 rfl ?_
    refine ⟨_, _, InsD.self, look_here, ?_⟩
    walk_at "+"
    refine wa_nil ?_
    refine fun a13 na13 => cdI [("key_text", .str _)] ⟨_, _, rfl, by walk_at "sz", by walk_at "key", rfl, rfl, rfl⟩ ?_
    walk_at "ret"

abbrev s_K_mul : Stmt := inClass (top 34) 8
abbrev N_K_mul : List Str := ["self", "other"]
theorem sc_K_mul : FnScope N_K_mul ["self", "other"] (defScope s_K_mul) := ⟨rfl, rfl, rfl, by decide +kernel, rfl, by decide +kernel, by decide +kernel⟩
def pd_K_mul (C : Addr) : PD := fun ds O Q => ∃ (l : List Nat) (n : Int), ds = [kw C l, .int n] ∧ (0 ≤ n ∧ n < 2 ^ 400 ∧ (l.length : Int) * n ≤ 300 ∧ l.length ≤ 300) ∧ l.all isKey = true ∧ O = [] ∧ Q (kw C (repL l n)) []
theorem ok_K_mul {f : Addr} {fd : FuncData} (Fn : Fun K "__mul__" "Keys.__mul__" s_K_mul f fd) (T : Bt mg) {C gi gw pw ge gl gc gg ga gm gn gb gca : Addr} (kc : KC K mg C gi gw pw ge gl gc gg ga gm gn gb gca) {f_is_integer : Addr} {fd_is_integer : FuncData} (F_is_integer : Fun K "is_integer" "is_integer" s_is_integer f_is_integer fd_is_integer) (m_is_integer : mg "is_integer" = some (.ref f_is_integer)) (G_is_integer : FnOk P w K mg base CX0 1 f_is_integer fd_is_integer ["value", "low", "high"] (spD K pd_is_integer)) {fd_K_init : FuncData} (F_K_init : Fun K "__init__" "Keys.__init__" s_K_init gi fd_K_init) (G_K_init : FnOk P w K mg base CX0 4 gi fd_K_init ["self", "text"] (spD K (pd_K_init C))) : FnOk P w K mg base CX0 8 f fd ["self", "other"] (spD K (pd_K_mul C)) := by
  have b_is_integer := F_is_integer.binds (ps := ["value", "low", "high"]) fun _ _ _ _ _ _ us hl => match us, hl with | [_, _, _], _ => rfl
  have b_K_init := F_K_init.binds (ps := ["self", "text"]) fun _ _ _ _ _ _ us hl => match us, hl with | [_, _], _ => rfl
  refine ok_fun Fn sc_K_mul (fun ds O Q h => ?_) (fun cdv A outer s H E Z ds O Q hr h => ?_)
  · obtain ⟨l, n, rfl, ⟨hn, hn2, hz, hz2⟩, hk, rfl, h⟩ := h; rfl
  · obtain ⟨l, n, rfl, ⟨hn, hn2, hz, hz2⟩, hk, rfl, h⟩ := h
    refine wb_cons (ws_if ?_)
    refine wt_not ?_
    refine wt_val ?_
    refine we_callP G_is_integer (hr.mono (by decide)) m_is_integer F_is_integer.kp b_is_integer pass0 ?_
    refine wa_cons ?_
    refine we_var 1 rfl ?_
    refine wa_cons ?_
    refine we_int ?_
    refine wa_cons ?_
    refine we_non ?_
    refine wa_nil ?_
    refine cdp0 ⟨_, _, none, rfl, rfl, ?_⟩
    refine wt_bl ?_
    refine ⟨fun eT2 => ?_, fun eT2 => ?_⟩
    · exact absurd eT2 (by simp [isInt]; omega)
    refine wb_nil ?_
    refine wb_cons (ws_if ?_)
    refine wt_C ?_
    refine we_B ?_
    refine we_len T.len ?_
    refine we_fld kc.cl kc.nf ?_
    refine we_var 0 rfl ?_
    refine ⟨_, _, InsD.self, look_here, ?_⟩
    walk_at "len"
    refine we_var 1 rfl ?_
    refine b_mulI (cmul_of 400 400 (by omega) (by omega)) ?_
    refine we_gI kc.most ?_
    walk_at ">"
    refine wt_bl ?_
    refine ⟨fun eT7 => ?_, fun eT7 => ?_⟩
    · exact absurd eT7 (by simp; omega)
    refine wb_nil ?_
    refine wb_one (ws_ret ?_)
    refine we_make kc.mki G_K_init (hr.mono (by decide)) kc.m b_K_init pass0 ?_
    refine wa_cons ?_
    refine we_B ?_
    refine we_fld kc.cl kc.nf ?_
    refine we_var 0 rfl ?_
    refine ⟨_, _, InsD.self, look_here, ?_⟩
    refine we_min2 T.min ?_
    refine we_var 1 rfl ?_
    refine we_gI kc.most ?_
    refine ⟨_, _, rfl, rfl, ?_⟩
    refine b_repS ⟨by omega, by omega, by omega, ?_⟩ ?_
    · rw [szl]
      have : l.length * (min n 300).toNat ≤ 300 * 300 := Nat.mul_le_mul (by omega) (by omega)
      omega
    rw [rep_min hn hz]
    refine wa_nil ?_
    refine fun a na => cdI [("key_text", .str _)] ⟨_, _, rfl, Nat.le_trans (repL_le hn hz) (by decide), repL_keys hk _, rfl, rfl, rfl⟩ ?_
    walk_at "ret"

abbrev s_K_neg : Stmt := inClass (top 34) 9
abbrev N_K_neg : List Str := ["self"]
theorem sc_K_neg : FnScope N_K_neg ["self"] (defScope s_K_neg) := ⟨rfl, rfl, rfl, by decide +kernel, rfl, by decide +kernel, by decide +kernel⟩
def pd_K_neg (C : Addr) : PD := fun ds O Q => ∃ l, ds = [kw C l] ∧ l.length ≤ 100000 ∧ l.all isKey = true ∧ O = [] ∧ Q (kw C l.reverse) []
theorem ok_K_neg {f : Addr} {fd : FuncData} (Fn : Fun K "__neg__" "Keys.__neg__" s_K_neg f fd) (T : Bt mg) {C gi gw pw ge gl gc gg ga gm gn gb gca : Addr} (kc : KC K mg C gi gw pw ge gl gc gg ga gm gn gb gca) {fd_K_init : FuncData} (F_K_init : Fun K "__init__" "Keys.__init__" s_K_init gi fd_K_init) (G_K_init : FnOk P w K mg base CX0 4 gi fd_K_init ["self", "text"] (spD K (pd_K_init C))) : FnOk P w K mg base CX0 8 f fd ["self"] (spD K (pd_K_neg C)) := by
  have b_K_init := F_K_init.binds (ps := ["self", "text"]) fun _ _ _ _ _ _ us hl => match us, hl with | [_, _], _ => rfl
  refine ok_fun Fn sc_K_neg (fun ds O Q h => ?_) (fun cdv A outer s H E Z ds O Q hr h => ?_)
  · obtain ⟨l, rfl, hz, hk, rfl, h⟩ := h; rfl
  · obtain ⟨l, rfl, hz, hk, rfl, h⟩ := h
    refine wb_one (ws_ret ?_)
    refine we_make kc.mki G_K_init (hr.mono (by decide)) kc.m b_K_init pass0 ?_
    refine wa_cons ?_
    refine we_revS ?_
    refine we_fld kc.cl kc.nf ?_
    refine we_var 0 rfl ?_
    refine ⟨_, _, InsD.self, look_here, ?_⟩
    refine ⟨_, rfl, by walk_at "sz", ?_⟩
    refine wa_nil ?_
    refine fun a3 na3 => cdI [("key_text", .str _)] ⟨_, _, rfl, by walk_at "sz", by walk_at "key", rfl, rfl, rfl⟩ ?_
    walk_at "ret"

abbrev s_K_begins : Stmt := inClass (top 34) 11
abbrev N_K_begins : List Str := ["self", "other"]
theorem sc_K_begins : FnScope N_K_begins ["self", "other"] (defScope s_K_begins) := ⟨rfl, rfl, rfl, by decide +kernel, rfl, by decide +kernel, by decide +kernel⟩
def pd_K_begins (C : Addr) : PD := fun ds O Q => ∃ l m, ds = [kw C l, kw C m] ∧ (l.length ≤ 100000 ∧ m.length ≤ 100000) ∧ O = [] ∧ Q (.bl (decide (m.take l.length = l))) []
theorem ok_K_begins {f : Addr} {fd : FuncData} (Fn : Fun K "begins" "Keys.begins" s_K_begins f fd) (T : Bt mg) {C gi gw pw ge gl gc gg ga gm gn gb gca : Addr} (kc : KC K mg C gi gw pw ge gl gc gg ga gm gn gb gca) : FnOk P w K mg base CX0 1 f fd ["self", "other"] (spD K (pd_K_begins C)) := by
  refine ok_fun Fn sc_K_begins (fun ds O Q h => ?_) (fun cdv A outer s H E Z ds O Q hr h => ?_)
  · obtain ⟨l, m, rfl, ⟨hz, hz2⟩, rfl, h⟩ := h; rfl
  · obtain ⟨l, m, rfl, ⟨hz, hz2⟩, rfl, h⟩ := h
    refine wb_cons (ws_if ?_)
    refine wt_not ?_
    refine wt_val ?_
    refine we_isi T.isinstance ?_
    refine we_var 1 rfl ?_
    refine we_gR kc.m ?_
    refine ⟨true, isi_ins kc.ity (.own C) kit_self, ?_⟩
    refine wt_bl ?_
    refine ⟨fun eT2 => ?_, fun eT2 => ?_⟩
    · exact nomatch eT2
    refine wb_nil ?_
    refine wb_one (ws_ret ?_)
    refine we_C ?_
    refine we_S ?_
    refine we_fld kc.cl kc.nf ?_
    refine we_var 1 rfl ?_
    refine ⟨_, _, InsD.self, look_here, ?_⟩
    refine wo_none ?_
    refine wo_some ?_
    refine we_len T.len ?_
    refine we_fld kc.cl kc.nf ?_
    refine we_var 0 rfl ?_
    refine ⟨_, _, InsD.self, look_here, ?_⟩
    walk_at "len"
    refine ⟨_, rfl, ?_⟩
    refine sx_S (by walk_at "sz") ?_
    rw [cut_to]
    refine we_fld kc.cl kc.nf ?_
    refine we_var 0 rfl ?_
    refine ⟨_, _, InsD.self, look_here, ?_⟩
    walk_at "=="
    walk_at "ret"

abbrev s__law_cell_at : Stmt := top 50
abbrev N__law_cell_at : List Str := ["script", "k"]
theorem sc__law_cell_at : FnScope N__law_cell_at ["script", "k"] (defScope s__law_cell_at) := ⟨rfl, rfl, rfl, by decide +kernel, rfl, by decide +kernel, by decide +kernel⟩
def pd__law_cell_at : PD := fun ds O Q => ∃ (xs : List Int) (k : Nat), ds = [.rl (xs.map D.int), .int k] ∧ O = [] ∧ ∀ x, Q (.int x) []
theorem ok__law_cell_at {f : Addr} {fd : FuncData} (Fn : Fun K "_law_cell_at" "_law_cell_at" s__law_cell_at f fd) (T : Bt mg) : FnOk P w K mg base CX0 1 f fd ["script", "k"] (spD K pd__law_cell_at) := by
  refine ok_fun Fn sc__law_cell_at (fun ds O Q h => ?_) (fun cdv A outer s H E Z ds O Q hr h => ?_)
  · obtain ⟨xs, k, rfl, rfl, h⟩ := h; rfl
  · obtain ⟨xs, k, rfl, rfl, h⟩ := h
    refine wb_cons (ws_if ?_)
    refine wt_C ?_
    refine we_var 1 rfl ?_
    refine we_len T.len ?_
    refine we_var 0 rfl ?_
    walk_at "len"
    walk_at "<"
    refine wt_bl ?_
    refine ⟨fun eT3 => ?_, fun eT3 => ?_⟩
    · have hlt : k < xs.length := by simpa using eT3
      refine wb_one (ws_ret ?_)
      refine we_X ?_
      refine we_var 0 rfl ?_
      refine we_var 1 rfl ?_
      refine ix_R (atI_lit k rfl (d := D.int xs[k]) (by simp [hlt])) ?_
      exact h _
    refine wb_nil ?_
    refine wb_one (ws_ret ?_)
    refine we_int ?_
    exact h _

abbrev s__law_bag : Stmt := top 51
abbrev N__law_bag : List Str := ["cell", "k"]
theorem sc__law_bag : FnScope N__law_bag ["cell", "k"] (defScope s__law_bag) := ⟨rfl, rfl, rfl, by decide +kernel, rfl, by decide +kernel, by decide +kernel⟩
def pd__law_bag : PD := fun ds O Q => ∃ (cell : Int) (k : Nat), ds = [.int cell, .int k] ∧ k ≤ 100 ∧ O = [] ∧ ∀ p ds, isBag 0 ds → Q (.at p) [(p, .lst ds)]
theorem ok__law_bag {f : Addr} {fd : FuncData} (Fn : Fun K "_law_bag" "_law_bag" s__law_bag f fd) (T : Bt mg) : FnOk P w K mg base CX0 1 f fd ["cell", "k"] (spD K pd__law_bag) := by
  refine ok_fun Fn sc__law_bag (fun ds O Q h => ?_) (fun cdv A outer s H E Z ds O Q hr h => ?_)
  · obtain ⟨cell, k, rfl, hk, rfl, h⟩ := h; rfl
  · obtain ⟨cell, k, rfl, hk, rfl, h⟩ := h
    refine wb_one (ws_ret ?_)
    refine we_lst ?_
    refine wa_cons ?_
    refine we_max2 T.max ?_
    refine we_int ?_
    refine we_B ?_
    refine we_var 0 rfl ?_
    refine we_B ?_
    refine we_int ?_
    refine we_int ?_
    refine b_powI (cpow_of 8 18 (by decide) (by decide) (by decide)) ?_
    walk_at "-"
    refine ⟨_, _, rfl, rfl, ?_⟩
    refine wa_cons ?_
    refine we_B ?_
    refine we_B ?_
    refine we_var 0 rfl ?_
    refine we_int ?_
    refine b_modR (by decide) fun x hx0 hx1 => ?_
    refine we_B ?_
    refine we_int ?_
    refine we_B ?_
    refine we_var 1 rfl ?_
    refine we_int ?_
    walk_at "+"
    refine b_mulI (cmul_of 64 64 (by decide) (by omega)) ?_
    walk_at "+"
    refine wa_cons ?_
    refine we_int ?_
    refine wa_nil ?_
    refine ⟨by walk_at "sz", ?_⟩
    refine .inr fun p np => ?_
    exact h _ _ ⟨_, _, _, rfl, by omega, by omega, by omega, by omega⟩

abbrev s__law_take : Stmt := top 52
abbrev N__law_take : List Str := ["bag", "limit", "found", "mixed"]
theorem sc__law_take : FnScope N__law_take ["bag", "limit"] (defScope s__law_take) := ⟨rfl, rfl, rfl, by decide +kernel, rfl, by decide +kernel, by decide +kernel⟩
def pd__law_take : PD := fun ds O Q => ∃ (p : Addr) (c : Nat) (lim : Int), ds = [.at p, .int lim] ∧ O = [(p, .pr (isBag c))] ∧ 0 < lim ∧ lim ≤ 10 ^ 12 ∧ c ≤ 10 ^ 12 ∧ ∀ x, 0 ≤ x → x < lim → Q (.int x) [(p, .pr (isBag (c + 1)))]
theorem ok__law_take {f : Addr} {fd : FuncData} (Fn : Fun K "_law_take" "_law_take" s__law_take f fd) (T : Bt mg) : FnOk P w K mg base CX0 1 f fd ["bag", "limit"] (spD K pd__law_take) := by
  refine ok_fun Fn sc__law_take (fun ds O Q h => ?_) (fun cdv A outer s H E Z ds O Q hr h => ?_)
  · obtain ⟨p, c, lim, rfl, rfl, hl0, hl1, hc, h⟩ := h; rfl
  · obtain ⟨p, c, lim, rfl, rfl, hl0, hl1, hc, h⟩ := h
    refine wb_open 0 rfl fun ds hb => ?_
    obtain ⟨a, m, n, rfl, hm0, hm1, hn0, hn1⟩ := hb
    refine wb_cons (ws_if ?_)
    refine wt_C ?_
    refine we_X ?_
    refine we_var 0 rfl ?_
    refine we_int ?_
    walk_at "ix"
    refine we_int ?_
    walk_at ">"
    refine wt_bl ?_
    refine ⟨fun eT3 => ?_, fun eT3 => ?_⟩
    · skip
      refine wb_cons (ws_set 2 ?_ sc__law_take.nd)
      refine we_B ?_
      refine we_X ?_
      refine we_var 0 rfl ?_
      refine we_int ?_
      walk_at "ix"
      refine we_var 1 rfl ?_
      refine b_modR (by omega) fun x hx0 hx1 => ?_
      refine wb_cons (ws_setL ?_)
      refine we_B ?_
      refine we_X ?_
      refine we_var 0 rfl ?_
      refine we_int ?_
      walk_at "ix"
      refine we_var 1 rfl ?_
      refine b_divI (cdiv_of 64 hl0 (by omega)) ?_
      refine we_var 0 rfl ?_
      refine we_int ?_
      refine ⟨_, 0, _, _, _, rfl, rfl, rfl, rfl, ?_⟩
      refine wb_recell 0 rfl (pr_close (φ := isBag (c + 1)) ⟨_, m, n, rfl, hm0, hm1, hn0, by omega⟩) ?_
      refine wb_one (ws_ret ?_)
      refine we_var 2 rfl ?_
      exact h _ hx0 hx1
    refine wb_nil ?_
    refine wb_cons (ws_setL ?_)
    refine we_B ?_
    refine we_X ?_
    refine we_var 0 rfl ?_
    refine we_int ?_
    walk_at "ix"
    refine we_int ?_
    walk_at "+"
    refine we_var 0 rfl ?_
    refine we_int ?_
    refine ⟨_, 0, _, _, _, rfl, rfl, rfl, rfl, ?_⟩
    refine wb_cons (ws_set 3 ?_ sc__law_take.nd)
    refine we_B ?_
    refine we_B ?_
    refine we_B ?_
    refine we_X ?_
    refine we_var 0 rfl ?_
    refine we_int ?_
    walk_at "ix"
    refine we_B ?_
    refine we_int ?_
    refine we_X ?_
    refine we_var 0 rfl ?_
    refine we_int ?_
    walk_at "ix"
    refine b_mulI (cmul_of 64 64 (by decide) (by omega)) ?_
    walk_at "+"
    refine we_int ?_
    refine b_powI (cpow_of 140 3 (by omega) (by decide) (by decide)) ?_
    refine we_int ?_
    refine b_modR (by decide) fun x hx0 hx1 => ?_
    refine wb_cons (ws_set 3 ?_ sc__law_take.nd)
    refine we_B ?_
    refine we_B ?_
    refine we_B ?_
    refine we_var 3 rfl ?_
    refine we_B ?_
    refine we_int ?_
    refine we_X ?_
    refine we_var 0 rfl ?_
    refine we_int ?_
    walk_at "ix"
    refine b_mulI (cmul_of 64 64 (by decide) (by omega)) ?_
    walk_at "+"
    refine we_int ?_
    refine b_powI (cpow_of 140 5 (by omega) (by decide) (by decide)) ?_
    refine we_int ?_
    refine b_modR (by decide) fun y hy0 hy1 => ?_
    refine wb_recell 0 rfl (pr_close (φ := isBag (c + 1)) ⟨_, m, n + 1, rfl, hm0, hm1, by omega, by omega⟩) ?_
    refine wb_one (ws_ret ?_)
    refine we_B ?_
    refine we_B ?_
    refine we_var 3 rfl ?_
    refine we_int ?_
    refine b_divI (cdiv_of 64 (by decide) (by decide)) ?_
    refine we_var 1 rfl ?_
    refine b_modR (by omega) fun z hz0 hz1 => ?_
    exact h _ hz0 hz1

abbrev s__law_list : Stmt := top 54
abbrev N__law_list : List Str := ["bag", "top", "style", "found", "turn", "some"]
theorem sc__law_list : FnScope N__law_list ["bag", "top"] (defScope s__law_list) := ⟨rfl, rfl, rfl, by decide +kernel, rfl, by decide +kernel, by decide +kernel⟩
def pd__law_list : PD := fun ds O Q => ∃ (p : Addr) (c : Nat) (top : Int), ds = [.at p, .int top] ∧ O = [(p, .pr (isBag c))] ∧ 0 ≤ top ∧ top ≤ 100 ∧ c ≤ 10 ^ 9 ∧ ∀ l : List Nat, l.length ≤ top.toNat → l.all isKey = true → Q (.str l) [(p, .pr (isBag (c + 200)))]
theorem ok__law_list {f : Addr} {fd : FuncData} (Fn : Fun K "_law_list" "_law_list" s__law_list f fd) (T : Bt mg) {f__law_take : Addr} {fd__law_take : FuncData} (F__law_take : Fun K "_law_take" "_law_take" s__law_take f__law_take fd__law_take) (m__law_take : mg "_law_take" = some (.ref f__law_take)) (G__law_take : FnOk P w K mg base CX0 1 f__law_take fd__law_take ["bag", "limit"] (spD K pd__law_take)) : FnOk P w K mg base CX0 2 f fd ["bag", "top"] (spD K pd__law_list) := by
  have b__law_take := F__law_take.binds (ps := ["bag", "limit"]) fun _ _ _ _ _ _ us hl => match us, hl with | [_, _], _ => rfl
  refine ok_fun Fn sc__law_list (fun ds O Q h => ?_) (fun cdv A outer s H E Z ds O Q hr h => ?_)
  · obtain ⟨p, c, top, rfl, rfl, ht0, ht1, hc, h⟩ := h; rfl
  · obtain ⟨p, c, top, rfl, rfl, ht0, ht1, hc, h⟩ := h
    refine wb_cons (ws_par 2 3 ?_ sc__law_list.nd)
    refine we_callP G__law_take (hr.mono (by decide)) m__law_take F__law_take.kp b__law_take pass0 ?_
    refine wa_cons ?_
    refine we_var 0 rfl ?_
    refine wa_cons ?_
    refine we_int ?_
    refine wa_nil ?_
    refine cd1 0 rfl ⟨_, _, _, rfl, rfl, by walk_at "tk", by walk_at "tk", by walk_at "tk", fun st hs0 hs1 => ⟨_, rfl, ?_⟩⟩
    refine we_str [] ?_
    refine wb_cons (ws_for [4] ?_)
    refine wi_range1 T.range ?_
    refine we_callP G__law_take (hr.mono (by decide)) m__law_take F__law_take.kp b__law_take pass0 ?_
    refine wa_cons ?_
    refine we_var 0 rfl ?_
    refine wa_cons ?_
    refine we_B ?_
    refine we_var 1 rfl ?_
    refine we_int ?_
    walk_at "+"
    refine wa_nil ?_
    refine cd1 0 rfl ⟨_, _, _, rfl, rfl, by walk_at "tk", by walk_at "tk", by walk_at "tk", fun tn ht2 ht3 => ⟨_, rfl, ?_⟩⟩
    refine ⟨_, rfl, by walk_at "rng", by walk_at "rng", ?_⟩
    refine ⟨fun i Γ' O' => ∃ l t s, Γ' = [some (.at p), some (.int top), some (.int st), some (.str l), t, s] ∧ l.length = i ∧ l.all isKey = true ∧ O' = [(p, .pr (isBag (c + 1 + 1 + i)))], ⟨_, _, _, rfl, rfl, rfl, rfl⟩, fun _ _ _ _ => trivial, fun i d Γ' O' hd hI => ?_, fun Γ' O' hI => ?_⟩
    · obtain ⟨l, t, s', rfl, hl, hk, rfl⟩ := hI
      obtain ⟨hi, rfl⟩ := rangeD_get hd
      refine wg_name 4 ?_ sc__law_list.nd
      refine wb_cons (ws_set 5 ?_ sc__law_list.nd)
      refine we_X ?_
      refine we_lst ?_
      refine wa_cons ?_
      refine we_str [97, 98, 45, 35, 60, 62] ?_
      refine wa_cons ?_
      refine we_str [120, 121, 122, 60, 62] ?_
      refine wa_cons ?_
      refine we_str [99, 45, 35, 45, 35, 60, 60, 62, 62] ?_
      refine wa_nil ?_
      refine ⟨by walk_at "sz", ?_⟩
      refine .inl ?_
      refine we_var 2 rfl ?_
      obtain ⟨so, hso, hsk, hsn, hsl⟩ := some_of hs0 hs1
      refine ix_L Vw.self hso ?_
      refine wb_cons (ws_set 3 ?_ sc__law_list.nd)
      refine we_B ?_
      refine we_var 3 rfl ?_
      refine we_X ?_
      refine we_var 5 rfl ?_
      refine we_callP G__law_take (hr.mono (by decide)) m__law_take F__law_take.kp b__law_take pass0 ?_
      refine wa_cons ?_
      refine we_var 0 rfl ?_
      refine wa_cons ?_
      refine we_len T.len ?_
      refine we_var 5 rfl ?_
      walk_at "len"
      refine wa_nil ?_
      refine cd1 0 rfl ⟨_, _, _, rfl, rfl, by walk_at "tk", by walk_at "tk", by walk_at "tk", fun j hj0 hj1 => ⟨_, rfl, ?_⟩⟩
      obtain ⟨q, hq, hqk⟩ := sign_of hsk hj0 hj1
      refine ix_S (by walk_at "sz") hq ?_
      walk_at "+"
      refine wb_nil ?_
      exact ⟨_, _, _, rfl, by simp; omega, by simp [hk, hqk], rfl⟩
    rw [rangeD_len] at hI
    obtain ⟨l, t, s', rfl, hl, hk, rfl⟩ := hI
    refine wb_recell 0 rfl (pr_imp (bag_mono (by omega : _ ≤ c + 200))) ?_
    refine wb_one (ws_ret ?_)
    refine we_var 3 rfl ?_
    exact h _ (by omega) hk

end

section
variable {P : Program} {w : World} {K : PySem.W.Frag} {mg : Str → Option Value} {base : Heap}
abbrev s__law_still : Stmt := top 53
abbrev N__law_still : List Str := ["bag", "top", "style", "found", "turn", "some"]
theorem sc__law_still : FnScope N__law_still ["bag", "top"] (defScope s__law_still) := ⟨rfl, rfl, rfl, by decide +kernel, rfl, by decide +kernel, by decide +kernel⟩
def pd__law_still : PD := fun ds O Q => ∃ (p : Addr) (c : Nat) (top : Int), ds = [.at p, .int top] ∧ O = [(p, .pr (isBag c))] ∧ 0 ≤ top ∧ top ≤ 100 ∧ c ≤ 10 ^ 9 ∧ ∀ l : List Nat, l.length ≤ top.toNat → (∀ c ∈ l, stillC c) → Q (.str l) [(p, .pr (isBag (c + 200)))]
theorem ok__law_still {f : Addr} {fd : FuncData} (Fn : Fun K "_law_still" "_law_still" s__law_still f fd) (T : Bt mg) {f__law_take : Addr} {fd__law_take : FuncData} (F__law_take : Fun K "_law_take" "_law_take" s__law_take f__law_take fd__law_take) (m__law_take : mg "_law_take" = some (.ref f__law_take)) (G__law_take : FnOk P w K mg base CX0 1 f__law_take fd__law_take ["bag", "limit"] (spD K pd__law_take)) : FnOk P w K mg base CX0 2 f fd ["bag", "top"] (spD K pd__law_still) := by
  have b__law_take := F__law_take.binds (ps := ["bag", "limit"]) fun _ _ _ _ _ _ us hl => match us, hl with | [_, _], _ => rfl
  refine ok_fun Fn sc__law_still (fun ds O Q h => ?_) (fun cdv A outer s H E Z ds O Q hr h => ?_)
  · obtain ⟨p, c, top, rfl, rfl, ht0, ht1, hc, h⟩ := h; rfl
  · obtain ⟨p, c, top, rfl, rfl, ht0, ht1, hc, h⟩ := h
    refine wb_cons (ws_par 2 3 ?_ sc__law_still.nd)
    refine we_callP G__law_take (hr.mono (by decide)) m__law_take F__law_take.kp b__law_take pass0 ?_
    refine wa_cons ?_
    refine we_var 0 rfl ?_
    refine wa_cons ?_
    refine we_int ?_
    refine wa_nil ?_
    refine cd1 0 rfl ⟨_, _, _, rfl, rfl, by walk_at "tk", by walk_at "tk", by walk_at "tk", fun st hs0 hs1 => ⟨_, rfl, ?_⟩⟩
    refine we_str [] ?_
    refine wb_cons (ws_for [4] ?_)
    refine wi_range1 T.range ?_
    refine we_callP G__law_take (hr.mono (by decide)) m__law_take F__law_take.kp b__law_take pass0 ?_
    refine wa_cons ?_
    refine we_var 0 rfl ?_
    refine wa_cons ?_
    refine we_B ?_
    refine we_var 1 rfl ?_
    refine we_int ?_
    walk_at "+"
    refine wa_nil ?_
    refine cd1 0 rfl ⟨_, _, _, rfl, rfl, by walk_at "tk", by walk_at "tk", by walk_at "tk", fun tn ht2 ht3 => ⟨_, rfl, ?_⟩⟩
    refine ⟨_, rfl, by walk_at "rng", by walk_at "rng", ?_⟩
    refine ⟨fun i Γ' O' => ∃ l t s, Γ' = [some (.at p), some (.int top), some (.int st), some (.str l), t, s] ∧ l.length = i ∧ (∀ c ∈ l, stillC c) ∧ O' = [(p, .pr (isBag (c + 1 + 1 + i)))], ⟨[], _, _, rfl, rfl, (fun c hc => nomatch hc), rfl⟩, fun _ _ _ _ => trivial, fun i d Γ' O' hd hI => ?_, fun Γ' O' hI => ?_⟩
    · obtain ⟨l, t, s', rfl, hl, hk, rfl⟩ := hI
      obtain ⟨hi, rfl⟩ := rangeD_get hd
      refine wg_name 4 ?_ sc__law_still.nd
      refine wb_cons (ws_set 5 ?_ sc__law_still.nd)
      refine we_X ?_
      refine we_lst ?_
      refine wa_cons ?_
      refine we_str [97, 98, 45, 35] ?_
      refine wa_cons ?_
      refine we_str [97, 98, 120, 121, 122, 45, 35] ?_
      refine wa_cons ?_
      refine we_str [120, 45, 45, 35, 35] ?_
      refine wa_cons ?_
      refine we_str [97, 113, 45, 35, 35, 45, 45, 35, 35] ?_
      refine wa_nil ?_
      refine ⟨by walk_at "sz", ?_⟩
      refine .inl ?_
      refine we_var 2 rfl ?_
      obtain ⟨so, hso, hsk, hsn, hsl⟩ := still_of hs0 hs1
      refine ix_L Vw.self hso ?_
      refine wb_cons (ws_set 3 ?_ sc__law_still.nd)
      refine we_B ?_
      refine we_var 3 rfl ?_
      refine we_X ?_
      refine we_var 5 rfl ?_
      refine we_callP G__law_take (hr.mono (by decide)) m__law_take F__law_take.kp b__law_take pass0 ?_
      refine wa_cons ?_
      refine we_var 0 rfl ?_
      refine wa_cons ?_
      refine we_len T.len ?_
      refine we_var 5 rfl ?_
      walk_at "len"
      refine wa_nil ?_
      refine cd1 0 rfl ⟨_, _, _, rfl, rfl, by walk_at "tk", by walk_at "tk", by walk_at "tk", fun j hj0 hj1 => ⟨_, rfl, ?_⟩⟩
      obtain ⟨q, hqm, hq⟩ := at_of hj0 hj1
      refine ix_S (by walk_at "sz") hq ?_
      walk_at "+"
      refine wb_nil ?_
      exact ⟨_, _, _, rfl, by simp; omega, still_app hk (fun d hd => by rw [List.mem_singleton] at hd; subst hd; exact hsk _ hqm), rfl⟩
    rw [rangeD_len] at hI
    obtain ⟨l, t, s', rfl, hl, hk, rfl⟩ := hI
    refine wb_recell 0 rfl (pr_imp (bag_mono (by omega : _ ≤ c + 200))) ?_
    refine wb_one (ws_ret ?_)
    refine we_var 3 rfl ?_
    exact h _ (by omega) hk

abbrev s__law_sums_right : Stmt := top 55
abbrev N__law_sums_right : List Str := ["bag", "a", "b", "c", "none", "many", "more"]
theorem sc__law_sums_right : FnScope N__law_sums_right ["bag", "a", "b", "c"] (defScope s__law_sums_right) := ⟨rfl, rfl, rfl, by decide +kernel, rfl, by decide +kernel, by decide +kernel⟩
def pd__law_sums_right (C : Addr) : PD := fun ds O Q => ∃ (p : Addr) (ct : Nat) (la lb lc : List Nat), ds = [.at p, kw C la, kw C lb, kw C lc] ∧ O = [(p, .pr (isBag ct))] ∧ ((la.length ≤ 40 ∧ la.all isKey = true) ∧ (lb.length ≤ 40 ∧ lb.all isKey = true) ∧ (lc.length ≤ 40 ∧ lc.all isKey = true)) ∧ ct ≤ 10 ^ 8 ∧ Q (.bl true) [(p, .pr (isBag (ct + 2)))]
theorem ok__law_sums_right {f : Addr} {fd : FuncData} (Fn : Fun K "_law_sums_right" "_law_sums_right" s__law_sums_right f fd) (T : Bt mg) {C gi gw pw ge gl gc gg ga gm gn gb gca : Addr} (kc : KC K mg C gi gw pw ge gl gc gg ga gm gn gb gca) {f__law_take : Addr} {fd__law_take : FuncData} (F__law_take : Fun K "_law_take" "_law_take" s__law_take f__law_take fd__law_take) (m__law_take : mg "_law_take" = some (.ref f__law_take)) (G__law_take : FnOk P w K mg base CX0 1 f__law_take fd__law_take ["bag", "limit"] (spD K pd__law_take)) {fd_K_init : FuncData} (F_K_init : Fun K "__init__" "Keys.__init__" s_K_init gi fd_K_init) (G_K_init : FnOk P w K mg base CX0 4 gi fd_K_init ["self", "text"] (spD K (pd_K_init C))) {fd_K_add : FuncData} (F_K_add : Fun K "__add__" "Keys.__add__" s_K_add ga fd_K_add) (G_K_add : FnOk P w K mg base CX0 8 ga fd_K_add ["self", "other"] (spD K (pd_K_add C))) {fd_K_mul : FuncData} (F_K_mul : Fun K "__mul__" "Keys.__mul__" s_K_mul gm fd_K_mul) (G_K_mul : FnOk P w K mg base CX0 8 gm fd_K_mul ["self", "other"] (spD K (pd_K_mul C))) {fd_K_neg : FuncData} (F_K_neg : Fun K "__neg__" "Keys.__neg__" s_K_neg gn fd_K_neg) (G_K_neg : FnOk P w K mg base CX0 8 gn fd_K_neg ["self"] (spD K (pd_K_neg C))) {fd_K_eq : FuncData} (F_K_eq : Fun K "__eq__" "Keys.__eq__" s_K_eq ge fd_K_eq) (G_K_eq : FnOk P w K mg base CX0 1 ge fd_K_eq ["self", "other"] (spD K (pd_K_eq C))) {fd_K_len : FuncData} (F_K_len : Fun K "__len__" "Keys.__len__" s_K_len gl fd_K_len) (G_K_len : FnOk P w K mg base CX0 1 gl fd_K_len ["self"] (spD K (pd_K_len C))) {fd_K_begins : FuncData} (F_K_begins : Fun K "begins" "Keys.begins" s_K_begins gb fd_K_begins) (G_K_begins : FnOk P w K mg base CX0 1 gb fd_K_begins ["self", "other"] (spD K (pd_K_begins C))) {fd_K_written : FuncData} (F_K_written : Fun K "written" "Keys.written" s_K_written gw fd_K_written) (G_K_written : FnOk P w K mg base CX0 1 gw fd_K_written ["self"] (spD K (pd_K_written C))) : FnOk P w K mg base CX0 12 f fd ["bag", "a", "b", "c"] (spD K (pd__law_sums_right C)) := by
  have b__law_take := F__law_take.binds (ps := ["bag", "limit"]) fun _ _ _ _ _ _ us hl => match us, hl with | [_, _], _ => rfl
  have b_K_init := F_K_init.binds (ps := ["self", "text"]) fun _ _ _ _ _ _ us hl => match us, hl with | [_, _], _ => rfl
  have b_K_add := F_K_add.binds (ps := ["self", "other"]) fun _ _ _ _ _ _ us hl => match us, hl with | [_, _], _ => rfl
  have b_K_mul := F_K_mul.binds (ps := ["self", "other"]) fun _ _ _ _ _ _ us hl => match us, hl with | [_, _], _ => rfl
  have b_K_neg := F_K_neg.binds (ps := ["self"]) fun _ _ _ _ _ _ us hl => match us, hl with | [_], _ => rfl
  have b_K_eq := F_K_eq.binds (ps := ["self", "other"]) fun _ _ _ _ _ _ us hl => match us, hl with | [_, _], _ => rfl
  have b_K_len := F_K_len.binds (ps := ["self"]) fun _ _ _ _ _ _ us hl => match us, hl with | [_], _ => rfl
  have b_K_begins := F_K_begins.binds (ps := ["self", "other"]) fun _ _ _ _ _ _ us hl => match us, hl with | [_, _], _ => rfl
  have b_K_written := F_K_written.binds (ps := ["self"]) fun _ _ _ _ _ _ us hl => match us, hl with | [_], _ => rfl
  refine ok_fun Fn sc__law_sums_right (fun ds O Q h => ?_) (fun cdv A outer s H E Z ds O Q hr h => ?_)
  · obtain ⟨p, ct, la, lb, lc, rfl, rfl, ⟨⟨a0, a1⟩, ⟨b0, b1⟩, ⟨c0, c1⟩⟩, hct, h⟩ := h; rfl
  · obtain ⟨p, ct, la, lb, lc, rfl, rfl, ⟨⟨a0, a1⟩, ⟨b0, b1⟩, ⟨c0, c1⟩⟩, hct, h⟩ := h
    refine wb_cons (ws_par3 4 5 6 ?_ sc__law_sums_right.nd)
    refine we_make kc.mki G_K_init (hr.mono (by decide)) kc.m b_K_init pass0 ?_
    refine wa_cons ?_
    refine we_str [] ?_
    refine wa_nil ?_
    refine fun a1 na1 => cdI [("key_text", .str _)] ⟨_, _, rfl, by walk_at "sz", by walk_at "key", rfl, rfl, rfl⟩ ?_
    refine we_callP G__law_take (hr.mono (by decide)) m__law_take F__law_take.kp b__law_take pass0 ?_
    refine wa_cons ?_
    refine we_var 0 rfl ?_
    refine wa_cons ?_
    refine we_int ?_
    refine wa_nil ?_
    refine cd1 0 rfl ⟨_, _, _, rfl, rfl, by walk_at "tk", by walk_at "tk", by walk_at "tk", fun mm hm0 hm1 => ⟨_, rfl, ?_⟩⟩
    refine we_callP G__law_take (hr.mono (by decide)) m__law_take F__law_take.kp b__law_take pass0 ?_
    refine wa_cons ?_
    refine we_var 0 rfl ?_
    refine wa_cons ?_
    refine we_int ?_
    refine wa_nil ?_
    refine cd1 0 rfl ⟨_, _, _, rfl, rfl, by walk_at "tk", by walk_at "tk", by walk_at "tk", fun mo ho0 ho1 => ⟨_, rfl, ?_⟩⟩
    have r1 := repL_bd 40 3 b0 hm0 (by omega)
    have r2 := repL_bd 40 2 b0 ho0 (by omega)
    have k1 := repL_keys b1 mm
    have k2 := repL_keys b1 mo
    have hmul : 0 ≤ mm * mo ∧ mm * mo ≤ 6 := ⟨Int.mul_nonneg hm0 ho0, by have := Int.mul_le_mul (show mm ≤ 3 by omega) (show mo ≤ 2 by omega) ho0 (by decide); omega⟩
    refine wb_cons (ws_if ?_)
    refine wt_ww ?_
    apply ww_orD
    refine wt_C ?_
    refine we_B ?_
    refine we_B ?_
    refine we_var 1 rfl ?_
    refine we_var 2 rfl ?_
    refine ⟨_, op_binC kc.sf kc.mad (fnr G_K_add b_K_add) (hr.mono (by decide)) pass0, opd_2C kc.ity InsD.self InsD.self (cdp0 ⟨_, _, rfl, by walk_at "sz", by walk_at "key", by walk_at "key", rfl, ?_⟩)⟩
    refine we_var 3 rfl ?_
    refine ⟨_, op_binC kc.sf kc.mad (fnr G_K_add b_K_add) (hr.mono (by decide)) pass0, opd_2C kc.ity InsD.self InsD.self (cdp0 ⟨_, _, rfl, by walk_at "sz", by walk_at "key", by walk_at "key", rfl, ?_⟩)⟩
    refine we_B ?_
    refine we_var 1 rfl ?_
    refine we_B ?_
    refine we_var 2 rfl ?_
    refine we_var 3 rfl ?_
    refine ⟨_, op_binC kc.sf kc.mad (fnr G_K_add b_K_add) (hr.mono (by decide)) pass0, opd_2C kc.ity InsD.self InsD.self (cdp0 ⟨_, _, rfl, by walk_at "sz", by walk_at "key", by walk_at "key", rfl, ?_⟩)⟩
    refine ⟨_, op_binC kc.sf kc.mad (fnr G_K_add b_K_add) (hr.mono (by decide)) pass0, opd_2C kc.ity InsD.self InsD.self (cdp0 ⟨_, _, rfl, by walk_at "sz", by walk_at "key", by walk_at "key", rfl, ?_⟩)⟩
    refine ⟨_, op_neO kc.meq kc.nne kc.sob (fnr G_K_eq b_K_eq) (hr.mono (by decide)) pass0, opd_neO InsD.self (dty_ins kc.ity InsD.self) nf_self (cdp0 ⟨_, _, rfl, rfl, ⟨_, rfl, ?_⟩⟩)⟩
    refine wt_bl ?_
    refine ⟨fun e9 => ?_, ?_⟩
    · skip
      apply ww_orD
      refine wt_C ?_
      refine we_B ?_
      refine we_var 1 rfl ?_
      refine we_var 4 rfl ?_
      refine ⟨_, op_binC kc.sf kc.mad (fnr G_K_add b_K_add) (hr.mono (by decide)) pass0, opd_2C kc.ity InsD.self InsD.self (cdp0 ⟨_, _, rfl, by walk_at "sz", by walk_at "key", by walk_at "key", rfl, ?_⟩)⟩
      refine we_var 1 rfl ?_
      refine ⟨_, op_neO kc.meq kc.nne kc.sob (fnr G_K_eq b_K_eq) (hr.mono (by decide)) pass0, opd_neO InsD.self (dty_ins kc.ity InsD.self) nf_self (cdp0 ⟨_, _, rfl, rfl, ⟨_, rfl, ?_⟩⟩)⟩
      refine wt_bl ?_
      refine ⟨fun e12 => ?_, ?_⟩
      · skip
        apply ww_orD
        refine wt_C ?_
        refine we_B ?_
        refine we_var 4 rfl ?_
        refine we_var 1 rfl ?_
        refine ⟨_, op_binC kc.sf kc.mad (fnr G_K_add b_K_add) (hr.mono (by decide)) pass0, opd_2C kc.ity InsD.self InsD.self (cdp0 ⟨_, _, rfl, by walk_at "sz", by walk_at "key", by walk_at "key", rfl, ?_⟩)⟩
        refine we_var 1 rfl ?_
        refine ⟨_, op_neO kc.meq kc.nne kc.sob (fnr G_K_eq b_K_eq) (hr.mono (by decide)) pass0, opd_neO InsD.self (dty_ins kc.ity InsD.self) nf_self (cdp0 ⟨_, _, rfl, rfl, ⟨_, rfl, ?_⟩⟩)⟩
        refine wt_bl ?_
        refine ⟨fun e15 => ?_, ?_⟩
        · skip
          refine ww_or1 ?_
          refine wt_C ?_
          refine we_negO kc.mne G_K_neg (hr.mono (by decide)) b_K_neg pass0 ?_
          refine we_B ?_
          refine we_var 1 rfl ?_
          refine we_var 2 rfl ?_
          refine ⟨_, op_binC kc.sf kc.mad (fnr G_K_add b_K_add) (hr.mono (by decide)) pass0, opd_2C kc.ity InsD.self InsD.self (cdp0 ⟨_, _, rfl, by walk_at "sz", by walk_at "key", by walk_at "key", rfl, ?_⟩)⟩
          refine ⟨⟨_, InsD.self⟩, cdp0 ⟨_, rfl, by walk_at "sz", by walk_at "key", rfl, ?_⟩⟩
          refine we_B ?_
          refine we_negO kc.mne G_K_neg (hr.mono (by decide)) b_K_neg pass0 ?_
          refine we_var 2 rfl ?_
          refine ⟨⟨_, InsD.self⟩, cdp0 ⟨_, rfl, by walk_at "sz", by walk_at "key", rfl, ?_⟩⟩
          refine we_negO kc.mne G_K_neg (hr.mono (by decide)) b_K_neg pass0 ?_
          refine we_var 1 rfl ?_
          refine ⟨⟨_, InsD.self⟩, cdp0 ⟨_, rfl, by walk_at "sz", by walk_at "key", rfl, ?_⟩⟩
          refine ⟨_, op_binC kc.sf kc.mad (fnr G_K_add b_K_add) (hr.mono (by decide)) pass0, opd_2C kc.ity InsD.self InsD.self (cdp0 ⟨_, _, rfl, by walk_at "sz", by walk_at "key", by walk_at "key", rfl, ?_⟩)⟩
          refine ⟨_, op_neO kc.meq kc.nne kc.sob (fnr G_K_eq b_K_eq) (hr.mono (by decide)) pass0, opd_neO InsD.self (dty_ins kc.ity InsD.self) nf_self (cdp0 ⟨_, _, rfl, rfl, ⟨_, rfl, ?_⟩⟩)⟩
          refine wt_bl ?_
          exact ⟨rfl, rfl⟩
        exact ⟨rfl, rfl⟩
      exact ⟨rfl, rfl⟩
    refine ⟨fun eT22 => ?_, fun eT22 => ?_⟩
    · exact absurd eT22 (by simp)
    refine wb_nil ?_
    refine wb_cons (ws_if ?_)
    refine wt_ww ?_
    apply ww_orD
    refine wt_C ?_
    refine we_B ?_
    refine we_var 2 rfl ?_
    refine we_B ?_
    refine we_var 5 rfl ?_
    refine we_var 6 rfl ?_
    walk_at "+"
    refine ⟨_, op_binT kc.bmul kc.mmu (fnr G_K_mul b_K_mul) (hr.mono (by decide)) pass0, opd_2I InsD.self (cdp0 ⟨_, _, rfl, kmul_of 40 5 b0 (by omega) (by omega), by walk_at "key", rfl, ?_⟩)⟩
    refine we_B ?_
    refine we_B ?_
    refine we_var 2 rfl ?_
    refine we_var 5 rfl ?_
    refine ⟨_, op_binT kc.bmul kc.mmu (fnr G_K_mul b_K_mul) (hr.mono (by decide)) pass0, opd_2I InsD.self (cdp0 ⟨_, _, rfl, kmul_of 40 3 b0 (by omega) (by omega), by walk_at "key", rfl, ?_⟩)⟩
    refine we_B ?_
    refine we_var 2 rfl ?_
    refine we_var 6 rfl ?_
    refine ⟨_, op_binT kc.bmul kc.mmu (fnr G_K_mul b_K_mul) (hr.mono (by decide)) pass0, opd_2I InsD.self (cdp0 ⟨_, _, rfl, kmul_of 40 2 b0 (by omega) (by omega), by walk_at "key", rfl, ?_⟩)⟩
    refine ⟨_, op_binC kc.sf kc.mad (fnr G_K_add b_K_add) (hr.mono (by decide)) pass0, opd_2C kc.ity InsD.self InsD.self (cdp0 ⟨_, _, rfl, by walk_at "sz", by walk_at "key", by walk_at "key", rfl, ?_⟩)⟩
    refine ⟨_, op_neO kc.meq kc.nne kc.sob (fnr G_K_eq b_K_eq) (hr.mono (by decide)) pass0, opd_neO InsD.self (dty_ins kc.ity InsD.self) nf_self (cdp0 ⟨_, _, rfl, rfl, ⟨_, rfl, ?_⟩⟩)⟩
    refine wt_bl ?_
    refine ⟨fun e29 => ?_, ?_⟩
    · skip
      apply ww_orD
      refine wt_C ?_
      refine we_B ?_
      refine we_B ?_
      refine we_var 2 rfl ?_
      refine we_var 5 rfl ?_
      refine ⟨_, op_binT kc.bmul kc.mmu (fnr G_K_mul b_K_mul) (hr.mono (by decide)) pass0, opd_2I InsD.self (cdp0 ⟨_, _, rfl, kmul_of 40 3 b0 (by omega) (by omega), by walk_at "key", rfl, ?_⟩)⟩
      refine we_var 6 rfl ?_
      refine ⟨_, op_binT kc.bmul kc.mmu (fnr G_K_mul b_K_mul) (hr.mono (by decide)) pass0, opd_2I InsD.self (cdp0 ⟨_, _, rfl, kmul_of 120 2 r1 (by omega) (by omega), by walk_at "key", rfl, ?_⟩)⟩
      refine we_B ?_
      refine we_var 2 rfl ?_
      refine we_B ?_
      refine we_var 5 rfl ?_
      refine we_var 6 rfl ?_
      refine b_mulI (cmul_of 64 64 (by omega) (by omega)) ?_
      refine ⟨_, op_binT kc.bmul kc.mmu (fnr G_K_mul b_K_mul) (hr.mono (by decide)) pass0, opd_2I InsD.self (cdp0 ⟨_, _, rfl, kmul_of 40 6 b0 (by omega) (by omega), by walk_at "key", rfl, ?_⟩)⟩
      refine ⟨_, op_neO kc.meq kc.nne kc.sob (fnr G_K_eq b_K_eq) (hr.mono (by decide)) pass0, opd_neO InsD.self (dty_ins kc.ity InsD.self) nf_self (cdp0 ⟨_, _, rfl, rfl, ⟨_, rfl, ?_⟩⟩)⟩
      refine wt_bl ?_
      refine ⟨fun e35 => ?_, ?_⟩
      · skip
        refine ww_or1 ?_
        refine wt_C ?_
        refine we_B ?_
        refine we_var 2 rfl ?_
        refine we_int ?_
        refine ⟨_, op_binT kc.bmul kc.mmu (fnr G_K_mul b_K_mul) (hr.mono (by decide)) pass0, opd_2I InsD.self (cdp0 ⟨_, _, rfl, kmul_of 40 1 b0 (by omega) (by omega), by walk_at "key", rfl, ?_⟩)⟩
        refine we_var 2 rfl ?_
        refine ⟨_, op_neO kc.meq kc.nne kc.sob (fnr G_K_eq b_K_eq) (hr.mono (by decide)) pass0, opd_neO InsD.self (dty_ins kc.ity InsD.self) nf_self (cdp0 ⟨_, _, rfl, rfl, ⟨_, rfl, ?_⟩⟩)⟩
        refine wt_bl ?_
        exact ⟨rfl, rfl⟩
      exact ⟨rfl, rfl⟩
    refine ⟨fun eT38 => ?_, fun eT38 => ?_⟩
    · exact absurd eT38 (by rw [repL_add lb hm0 ho0, repL_mul lb hm0 ho0, repL_one]; simp)
    refine wb_nil ?_
    refine wb_cons (ws_if ?_)
    refine wt_ww ?_
    apply ww_orD
    refine wt_C ?_
    refine we_lenO T.len kc.mlen G_K_len (hr.mono (by decide)) b_K_len pass0 ?_
    refine we_B ?_
    refine we_var 1 rfl ?_
    refine we_var 2 rfl ?_
    refine ⟨_, op_binC kc.sf kc.mad (fnr G_K_add b_K_add) (hr.mono (by decide)) pass0, opd_2C kc.ity InsD.self InsD.self (cdp0 ⟨_, _, rfl, by walk_at "sz", by walk_at "key", by walk_at "key", rfl, ?_⟩)⟩
    refine ⟨⟨_, InsD.self⟩, cdp0 ⟨_, rfl, by walk_at "sz", rfl, ⟨_, rfl, by walk_at "li", ?_⟩⟩⟩
    refine we_B ?_
    refine we_lenO T.len kc.mlen G_K_len (hr.mono (by decide)) b_K_len pass0 ?_
    refine we_var 1 rfl ?_
    refine ⟨⟨_, InsD.self⟩, cdp0 ⟨_, rfl, by walk_at "sz", rfl, ⟨_, rfl, by walk_at "li", ?_⟩⟩⟩
    refine we_lenO T.len kc.mlen G_K_len (hr.mono (by decide)) b_K_len pass0 ?_
    refine we_var 2 rfl ?_
    refine ⟨⟨_, InsD.self⟩, cdp0 ⟨_, rfl, by walk_at "sz", rfl, ⟨_, rfl, by walk_at "li", ?_⟩⟩⟩
    walk_at "+"
    walk_at "!="
    refine wt_bl ?_
    refine ⟨fun e45 => ?_, ?_⟩
    · skip
      apply ww_orD
      refine wt_C ?_
      refine we_lenO T.len kc.mlen G_K_len (hr.mono (by decide)) b_K_len pass0 ?_
      refine we_B ?_
      refine we_var 2 rfl ?_
      refine we_var 5 rfl ?_
      refine ⟨_, op_binT kc.bmul kc.mmu (fnr G_K_mul b_K_mul) (hr.mono (by decide)) pass0, opd_2I InsD.self (cdp0 ⟨_, _, rfl, kmul_of 40 3 b0 (by omega) (by omega), by walk_at "key", rfl, ?_⟩)⟩
      refine ⟨⟨_, InsD.self⟩, cdp0 ⟨_, rfl, by walk_at "sz", rfl, ⟨_, rfl, by walk_at "li", ?_⟩⟩⟩
      refine we_B ?_
      refine we_var 5 rfl ?_
      refine we_lenO T.len kc.mlen G_K_len (hr.mono (by decide)) b_K_len pass0 ?_
      refine we_var 2 rfl ?_
      refine ⟨⟨_, InsD.self⟩, cdp0 ⟨_, rfl, by walk_at "sz", rfl, ⟨_, rfl, by walk_at "li", ?_⟩⟩⟩
      refine b_mulI (cmul_of 64 64 (by omega) (by omega)) ?_
      walk_at "!="
      refine wt_bl ?_
      refine ⟨fun e51 => ?_, ?_⟩
      · skip
        refine ww_or1 ?_
        refine wt_C ?_
        refine we_negO kc.mne G_K_neg (hr.mono (by decide)) b_K_neg pass0 ?_
        refine we_var 4 rfl ?_
        refine ⟨⟨_, InsD.self⟩, cdp0 ⟨_, rfl, by walk_at "sz", by walk_at "key", rfl, ?_⟩⟩
        refine we_var 4 rfl ?_
        refine ⟨_, op_neO kc.meq kc.nne kc.sob (fnr G_K_eq b_K_eq) (hr.mono (by decide)) pass0, opd_neO InsD.self (dty_ins kc.ity InsD.self) nf_self (cdp0 ⟨_, _, rfl, rfl, ⟨_, rfl, ?_⟩⟩)⟩
        refine wt_bl ?_
        exact ⟨rfl, rfl⟩
      exact ⟨rfl, rfl⟩
    refine ⟨fun eT54 => ?_, fun eT54 => ?_⟩
    · exact absurd eT54 (by rw [show (((repL lb mm).length : Nat) : Int) = mm * (lb.length : Int) from by rw [repL_len, Int.natCast_mul, Int.toNat_of_nonneg hm0]]; simp)
    refine wb_nil ?_
    refine wb_cons (ws_if ?_)
    refine wt_ww ?_
    apply ww_orD
    refine wt_not ?_
    refine wt_val ?_
    refine we_meth kc.cl kc.mbe G_K_begins (hr.mono (by decide)) b_K_begins pass0 ?_
    refine we_var 1 rfl ?_
    refine ⟨⟨_, InsD.self, rfl⟩, ?_⟩
    refine wa_cons ?_
    refine we_B ?_
    refine we_var 1 rfl ?_
    refine we_var 2 rfl ?_
    refine ⟨_, op_binC kc.sf kc.mad (fnr G_K_add b_K_add) (hr.mono (by decide)) pass0, opd_2C kc.ity InsD.self InsD.self (cdp0 ⟨_, _, rfl, by walk_at "sz", by walk_at "key", by walk_at "key", rfl, ?_⟩)⟩
    refine wa_nil ?_
    refine cdp0 ⟨_, _, rfl, ⟨by walk_at "sz", by walk_at "sz"⟩, rfl, ?_⟩
    refine wt_bl ?_
    refine ⟨fun e57 => ?_, ?_⟩
    · skip
      apply ww_orD
      refine wt_not ?_
      refine wt_val ?_
      refine we_meth kc.cl kc.mbe G_K_begins (hr.mono (by decide)) b_K_begins pass0 ?_
      refine we_var 4 rfl ?_
      refine ⟨⟨_, InsD.self, rfl⟩, ?_⟩
      refine wa_cons ?_
      refine we_var 1 rfl ?_
      refine wa_nil ?_
      refine cdp0 ⟨_, _, rfl, ⟨by walk_at "sz", by walk_at "sz"⟩, rfl, ?_⟩
      refine wt_bl ?_
      refine ⟨fun e59 => ?_, ?_⟩
      · skip
        refine ww_or1 ?_
        refine wt_ww ?_
        apply ww_andD
        refine wt_val ?_
        refine we_meth kc.cl kc.mbe G_K_begins (hr.mono (by decide)) b_K_begins pass0 ?_
        refine we_var 2 rfl ?_
        refine ⟨⟨_, InsD.self, rfl⟩, ?_⟩
        refine wa_cons ?_
        refine we_B ?_
        refine we_var 1 rfl ?_
        refine we_var 2 rfl ?_
        refine ⟨_, op_binC kc.sf kc.mad (fnr G_K_add b_K_add) (hr.mono (by decide)) pass0, opd_2C kc.ity InsD.self InsD.self (cdp0 ⟨_, _, rfl, by walk_at "sz", by walk_at "key", by walk_at "key", rfl, ?_⟩)⟩
        refine wa_nil ?_
        refine cdp0 ⟨_, _, rfl, ⟨by walk_at "sz", by walk_at "sz"⟩, rfl, ?_⟩
        refine wt_bl ?_
        refine ⟨fun e62 => ?_, ?_⟩
        · skip
          refine ww_and1 ?_
          refine wt_not ?_
          refine wt_C ?_
          refine we_S ?_
          refine we_prop kc.cl kc.pw G_K_written (hr.mono (by decide)) b_K_written pass0 ?_
          refine we_B ?_
          refine we_var 1 rfl ?_
          refine we_var 2 rfl ?_
          refine ⟨_, op_binC kc.sf kc.mad (fnr G_K_add b_K_add) (hr.mono (by decide)) pass0, opd_2C kc.ity InsD.self InsD.self (cdp0 ⟨_, _, rfl, by walk_at "sz", by walk_at "key", by walk_at "key", rfl, ?_⟩)⟩
          refine ⟨⟨_, InsD.self⟩, cdp0 ⟨_, rfl, rfl, ?_⟩⟩
          refine wo_none ?_
          refine wo_some ?_
          refine we_lenO T.len kc.mlen G_K_len (hr.mono (by decide)) b_K_len pass0 ?_
          refine we_var 2 rfl ?_
          refine ⟨⟨_, InsD.self⟩, cdp0 ⟨_, rfl, by walk_at "sz", rfl, ⟨_, rfl, by walk_at "li", ?_⟩⟩⟩
          refine ⟨_, rfl, ?_⟩
          refine sx_S (by rw [szl, List.length_append]; omega) ?_
          rw [cut_to]
          refine we_prop kc.cl kc.pw G_K_written (hr.mono (by decide)) b_K_written pass0 ?_
          refine we_var 2 rfl ?_
          refine ⟨⟨_, InsD.self⟩, cdp0 ⟨_, rfl, rfl, ?_⟩⟩
          walk_at "=="
          refine wt_bl ?_
          exact ⟨rfl, rfl⟩
        exact ⟨rfl, rfl⟩
      exact ⟨rfl, rfl⟩
    refine ⟨fun eT69 => ?_, fun eT69 => ?_⟩
    · exact absurd eT69 (by rw [show (la ++ lb).take la.length = la from List.take_left ..]; simp)
    refine wb_nil ?_
    refine wb_one (ws_ret ?_)
    apply we_orD
    refine we_C ?_
    refine we_meth kc.cl kc.mbe G_K_begins (hr.mono (by decide)) b_K_begins pass0 ?_
    refine we_var 1 rfl ?_
    refine ⟨⟨_, InsD.self, rfl⟩, ?_⟩
    refine wa_cons ?_
    refine we_var 2 rfl ?_
    refine wa_nil ?_
    refine cdp0 ⟨_, _, rfl, ⟨by walk_at "sz", by walk_at "sz"⟩, rfl, ?_⟩
    refine we_bl ?_
    walk_at "is"
    refine ⟨_, rfl, fun e72 => ?_, ?_⟩
    · skip
      apply we_orD
      refine we_C ?_
      refine we_meth kc.cl kc.mbe G_K_begins (hr.mono (by decide)) b_K_begins pass0 ?_
      refine we_var 2 rfl ?_
      refine ⟨⟨_, InsD.self, rfl⟩, ?_⟩
      refine wa_cons ?_
      refine we_var 1 rfl ?_
      refine wa_nil ?_
      refine cdp0 ⟨_, _, rfl, ⟨by walk_at "sz", by walk_at "sz"⟩, rfl, ?_⟩
      refine we_bl ?_
      walk_at "is"
      refine ⟨_, rfl, fun e75 => ?_, ?_⟩
      · skip
        refine we_one ?_
        refine we_C ?_
        refine we_var 1 rfl ?_
        refine we_var 2 rfl ?_
        refine ⟨_, op_eqO kc.meq (fnr G_K_eq b_K_eq) (hr.mono (by decide)) pass0, opd_eqO InsD.self (dty_ins kc.ity InsD.self) nf_self (cdp0 ⟨_, _, rfl, rfl, ?_⟩)⟩
        exact ⟨rfl, rfl⟩
      exact ⟨rfl, rfl⟩
    rw [beg_right]
    exact h

abbrev s__law_numbers_right : Stmt := top 56
abbrev N__law_numbers_right : List Str := ["a", "b", "both", "due", "one", "two"]
theorem sc__law_numbers_right : FnScope N__law_numbers_right ["a", "b"] (defScope s__law_numbers_right) := ⟨rfl, rfl, rfl, by decide +kernel, rfl, by decide +kernel, by decide +kernel⟩
def pd__law_numbers_right (C : Addr) : PD := fun ds O Q => ∃ (la lb : List Nat), ds = [kw C la, kw C lb] ∧ ((la.length ≤ 40 ∧ la.all isKey = true) ∧ (lb.length ≤ 40 ∧ lb.all isKey = true)) ∧ O = [] ∧ Q (.bl true) []
theorem ok__law_numbers_right {f : Addr} {fd : FuncData} (Fn : Fun K "_law_numbers_right" "_law_numbers_right" s__law_numbers_right f fd) (T : Bt mg) {C gi gw pw ge gl gc gg ga gm gn gb gca : Addr} (kc : KC K mg C gi gw pw ge gl gc gg ga gm gn gb gca) {f_net_of : Addr} {fd_net_of : FuncData} (F_net_of : Fun K "net_of" "net_of" s_net_of f_net_of fd_net_of) (m_net_of : mg "net_of" = some (.ref f_net_of)) (G_net_of : FnOk P w K mg base CX0 4 f_net_of fd_net_of ["keys"] (spD K pd_net_of)) {f_depth_of : Addr} {fd_depth_of : FuncData} (F_depth_of : Fun K "depth_of" "depth_of" s_depth_of f_depth_of fd_depth_of) (m_depth_of : mg "depth_of" = some (.ref f_depth_of)) (G_depth_of : FnOk P w K mg base CX0 4 f_depth_of fd_depth_of ["keys"] (spD K pd_depth_of)) {f_reach_of : Addr} {fd_reach_of : FuncData} (F_reach_of : Fun K "reach_of" "reach_of" s_reach_of f_reach_of fd_reach_of) (m_reach_of : mg "reach_of" = some (.ref f_reach_of)) (G_reach_of : FnOk P w K mg base CX0 4 f_reach_of fd_reach_of ["keys"] (spD K pd_reach_of)) {fd_K_add : FuncData} (F_K_add : Fun K "__add__" "Keys.__add__" s_K_add ga fd_K_add) (G_K_add : FnOk P w K mg base CX0 8 ga fd_K_add ["self", "other"] (spD K (pd_K_add C))) {fd_K_written : FuncData} (F_K_written : Fun K "written" "Keys.written" s_K_written gw fd_K_written) (G_K_written : FnOk P w K mg base CX0 1 gw fd_K_written ["self"] (spD K (pd_K_written C))) : FnOk P w K mg base CX0 12 f fd ["a", "b"] (spD K (pd__law_numbers_right C)) := by
  have b_net_of := F_net_of.binds (ps := ["keys"]) fun _ _ _ _ _ _ us hl => match us, hl with | [_], _ => rfl
  have b_depth_of := F_depth_of.binds (ps := ["keys"]) fun _ _ _ _ _ _ us hl => match us, hl with | [_], _ => rfl
  have b_reach_of := F_reach_of.binds (ps := ["keys"]) fun _ _ _ _ _ _ us hl => match us, hl with | [_], _ => rfl
  have b_K_add := F_K_add.binds (ps := ["self", "other"]) fun _ _ _ _ _ _ us hl => match us, hl with | [_, _], _ => rfl
  have b_K_written := F_K_written.binds (ps := ["self"]) fun _ _ _ _ _ _ us hl => match us, hl with | [_], _ => rfl
  refine ok_fun Fn sc__law_numbers_right (fun ds O Q h => ?_) (fun cdv A outer s H E Z ds O Q hr h => ?_)
  · obtain ⟨la, lb, rfl, ⟨⟨a0, a1⟩, ⟨b0, b1⟩⟩, rfl, h⟩ := h; rfl
  · obtain ⟨la, lb, rfl, ⟨⟨a0, a1⟩, ⟨b0, b1⟩⟩, rfl, h⟩ := h
    have ab : (la ++ lb).all isKey = true := by rw [List.all_append, a1, b1]; rfl
    have abl : (la ++ lb).length ≤ 80 := by rw [List.length_append]; omega
    refine wb_cons (ws_set 2 ?_ sc__law_numbers_right.nd)
    refine we_B ?_
    refine we_var 0 rfl ?_
    refine we_var 1 rfl ?_
    refine ⟨_, op_binC kc.sf kc.mad (fnr G_K_add b_K_add) (hr.mono (by decide)) pass0, opd_2C kc.ity InsD.self InsD.self (cdp0 ⟨_, _, rfl, by walk_at "sz", by walk_at "key", by walk_at "key", rfl, ?_⟩)⟩
    refine wb_cons (ws_if ?_)
    refine wt_C ?_
    refine we_callP G_net_of (hr.mono (by decide)) m_net_of F_net_of.kp b_net_of pass0 ?_
    refine wa_cons ?_
    refine we_prop kc.cl kc.pw G_K_written (hr.mono (by decide)) b_K_written pass0 ?_
    refine we_var 2 rfl ?_
    refine ⟨⟨_, InsD.self⟩, cdp0 ⟨_, rfl, rfl, ?_⟩⟩
    refine wa_nil ?_
    refine cdp0 ⟨_, rfl, ⟨by walk_at "sz", by walk_at "key"⟩, rfl, ?_⟩
    refine we_B ?_
    refine we_callP G_net_of (hr.mono (by decide)) m_net_of F_net_of.kp b_net_of pass0 ?_
    refine wa_cons ?_
    refine we_prop kc.cl kc.pw G_K_written (hr.mono (by decide)) b_K_written pass0 ?_
    refine we_var 0 rfl ?_
    refine ⟨⟨_, InsD.self⟩, cdp0 ⟨_, rfl, rfl, ?_⟩⟩
    refine wa_nil ?_
    refine cdp0 ⟨_, rfl, ⟨by walk_at "sz", by walk_at "key"⟩, rfl, ?_⟩
    refine we_callP G_net_of (hr.mono (by decide)) m_net_of F_net_of.kp b_net_of pass0 ?_
    refine wa_cons ?_
    refine we_prop kc.cl kc.pw G_K_written (hr.mono (by decide)) b_K_written pass0 ?_
    refine we_var 1 rfl ?_
    refine ⟨⟨_, InsD.self⟩, cdp0 ⟨_, rfl, rfl, ?_⟩⟩
    refine wa_nil ?_
    refine cdp0 ⟨_, rfl, ⟨by walk_at "sz", by walk_at "key"⟩, rfl, ?_⟩
    walk_at "+"
    walk_at "!="
    refine wt_bl ?_
    refine ⟨fun eT10 => ?_, fun eT10 => ?_⟩
    · exact absurd eT10 (by rw [(sums_app la lb).2]; simp; omega)
    refine wb_nil ?_
    refine wb_cons (ws_set 3 ?_ sc__law_numbers_right.nd)
    refine we_max2 T.max ?_
    refine we_callP G_depth_of (hr.mono (by decide)) m_depth_of F_depth_of.kp b_depth_of pass0 ?_
    refine wa_cons ?_
    refine we_prop kc.cl kc.pw G_K_written (hr.mono (by decide)) b_K_written pass0 ?_
    refine we_var 0 rfl ?_
    refine ⟨⟨_, InsD.self⟩, cdp0 ⟨_, rfl, rfl, ?_⟩⟩
    refine wa_nil ?_
    refine cdp0 ⟨_, rfl, ⟨by omega, by assumption⟩, rfl, fun da hda => ?_⟩
    refine we_B ?_
    refine we_callP G_depth_of (hr.mono (by decide)) m_depth_of F_depth_of.kp b_depth_of pass0 ?_
    refine wa_cons ?_
    refine we_prop kc.cl kc.pw G_K_written (hr.mono (by decide)) b_K_written pass0 ?_
    refine we_var 1 rfl ?_
    refine ⟨⟨_, InsD.self⟩, cdp0 ⟨_, rfl, rfl, ?_⟩⟩
    refine wa_nil ?_
    refine cdp0 ⟨_, rfl, ⟨by omega, by assumption⟩, rfl, fun db hdb => ?_⟩
    refine we_callP G_net_of (hr.mono (by decide)) m_net_of F_net_of.kp b_net_of pass0 ?_
    refine wa_cons ?_
    refine we_prop kc.cl kc.pw G_K_written (hr.mono (by decide)) b_K_written pass0 ?_
    refine we_var 0 rfl ?_
    refine ⟨⟨_, InsD.self⟩, cdp0 ⟨_, rfl, rfl, ?_⟩⟩
    refine wa_nil ?_
    refine cdp0 ⟨_, rfl, ⟨by walk_at "sz", by walk_at "key"⟩, rfl, ?_⟩
    walk_at "-"
    refine ⟨_, _, rfl, rfl, ?_⟩
    refine wb_cons (ws_if ?_)
    refine wt_C ?_
    refine we_callP G_depth_of (hr.mono (by decide)) m_depth_of F_depth_of.kp b_depth_of pass0 ?_
    refine wa_cons ?_
    refine we_prop kc.cl kc.pw G_K_written (hr.mono (by decide)) b_K_written pass0 ?_
    refine we_var 2 rfl ?_
    refine ⟨⟨_, InsD.self⟩, cdp0 ⟨_, rfl, rfl, ?_⟩⟩
    refine wa_nil ?_
    refine cdp0 ⟨_, rfl, ⟨by omega, by assumption⟩, rfl, fun dz hdz => ?_⟩
    refine we_var 3 rfl ?_
    walk_at "!="
    refine wt_bl ?_
    refine ⟨fun eT22 => ?_, fun eT22 => ?_⟩
    · exact absurd eT22 (by have := max_app hdz hda hdb; simp; omega)
    refine wb_nil ?_
    refine wb_cons (ws_par 4 5 ?_ sc__law_numbers_right.nd)
    refine we_callP G_reach_of (hr.mono (by decide)) m_reach_of F_reach_of.kp b_reach_of pass0 ?_
    refine wa_cons ?_
    refine we_prop kc.cl kc.pw G_K_written (hr.mono (by decide)) b_K_written pass0 ?_
    refine we_var 0 rfl ?_
    refine ⟨⟨_, InsD.self⟩, cdp0 ⟨_, rfl, rfl, ?_⟩⟩
    refine wa_nil ?_
    refine cdp0 ⟨_, rfl, ⟨by walk_at "sz", by walk_at "key"⟩, rfl, ?_⟩
    refine we_callP G_reach_of (hr.mono (by decide)) m_reach_of F_reach_of.kp b_reach_of pass0 ?_
    refine wa_cons ?_
    refine we_prop kc.cl kc.pw G_K_written (hr.mono (by decide)) b_K_written pass0 ?_
    refine we_var 2 rfl ?_
    refine ⟨⟨_, InsD.self⟩, cdp0 ⟨_, rfl, rfl, ?_⟩⟩
    refine wa_nil ?_
    refine cdp0 ⟨_, rfl, ⟨by walk_at "sz", by walk_at "key"⟩, rfl, ?_⟩
    refine wb_one (ws_ret ?_)
    apply we_andD
    refine we_C ?_
    refine we_X ?_
    refine we_var 4 rfl ?_
    refine we_int ?_
    walk_at "ix"
    refine we_X ?_
    refine we_var 5 rfl ?_
    refine we_int ?_
    walk_at "ix"
    walk_at "<="
    refine ⟨_, rfl, fun e30 => ?_, ?_⟩
    · skip
      refine we_one ?_
      refine we_C ?_
      refine we_X ?_
      refine we_var 4 rfl ?_
      refine we_int ?_
      walk_at "ix"
      refine we_X ?_
      refine we_var 5 rfl ?_
      refine we_int ?_
      walk_at "ix"
      walk_at "<="
      exact ⟨rfl, rfl⟩
    have hfa := far_app la lb
    rw [show (decide (((farF la).lr : Int) ≤ ((farF (la ++ lb)).lr : Int)) && decide (((farF la).rr : Int) ≤ ((farF (la ++ lb)).rr : Int))) = true from by simp; omega]
    exact h

abbrev s__law_forms_right : Stmt := top 57
abbrev N__law_forms_right : List Str := ["bag", "one", "two", "form_here"]
theorem sc__law_forms_right : FnScope N__law_forms_right ["bag"] (defScope s__law_forms_right) := ⟨rfl, rfl, rfl, by decide +kernel, rfl, by decide +kernel, by decide +kernel⟩
def pd__law_forms_right : PD := fun ds O Q => ∃ (p : Addr) (ct : Nat), ds = [.at p] ∧ O = [(p, .pr (isBag ct))] ∧ ct ≤ 10 ^ 8 ∧ Q (.bl true) [(p, .pr (isBag (ct + 400)))]
theorem ok__law_forms_right {f : Addr} {fd : FuncData} (Fn : Fun K "_law_forms_right" "_law_forms_right" s__law_forms_right f fd) (T : Bt mg) {C gi gw pw ge gl gc gg ga gm gn gb gca : Addr} (kc : KC K mg C gi gw pw ge gl gc gg ga gm gn gb gca) {f__law_still : Addr} {fd__law_still : FuncData} (F__law_still : Fun K "_law_still" "_law_still" s__law_still f__law_still fd__law_still) (m__law_still : mg "_law_still" = some (.ref f__law_still)) (G__law_still : FnOk P w K mg base CX0 2 f__law_still fd__law_still ["bag", "top"] (spD K pd__law_still)) {fd_K_init : FuncData} (F_K_init : Fun K "__init__" "Keys.__init__" s_K_init gi fd_K_init) (G_K_init : FnOk P w K mg base CX0 4 gi fd_K_init ["self", "text"] (spD K (pd_K_init C))) {fd_K_add : FuncData} (F_K_add : Fun K "__add__" "Keys.__add__" s_K_add ga fd_K_add) (G_K_add : FnOk P w K mg base CX0 8 ga fd_K_add ["self", "other"] (spD K (pd_K_add C))) {fd_K_mul : FuncData} (F_K_mul : Fun K "__mul__" "Keys.__mul__" s_K_mul gm fd_K_mul) (G_K_mul : FnOk P w K mg base CX0 8 gm fd_K_mul ["self", "other"] (spD K (pd_K_mul C))) {f_form_of : Addr} {fd_form_of : FuncData} (F_form_of : Fun K "form_of" "form_of" s_form_of f_form_of fd_form_of) (m_form_of : mg "form_of" = some (.ref f_form_of)) (G_form_of : FnOk P w K mg base CX0 5 f_form_of fd_form_of ["keys"] (spD K pd_form_of)) {f_joined : Addr} {fd_joined : FuncData} (F_joined : Fun K "joined" "joined" s_joined f_joined fd_joined) (m_joined : mg "joined" = some (.ref f_joined)) (G_joined : FnR P w K mg base CX0 4 f_joined (spD K (starP 1 pd_joined))) {fd_K_written : FuncData} (F_K_written : Fun K "written" "Keys.written" s_K_written gw fd_K_written) (G_K_written : FnOk P w K mg base CX0 1 gw fd_K_written ["self"] (spD K (pd_K_written C))) : FnOk P w K mg base CX0 12 f fd ["bag"] (spD K pd__law_forms_right) := by
  have b__law_still := F__law_still.binds (ps := ["bag", "top"]) fun _ _ _ _ _ _ us hl => match us, hl with | [_, _], _ => rfl
  have b_K_init := F_K_init.binds (ps := ["self", "text"]) fun _ _ _ _ _ _ us hl => match us, hl with | [_, _], _ => rfl
  have b_K_add := F_K_add.binds (ps := ["self", "other"]) fun _ _ _ _ _ _ us hl => match us, hl with | [_, _], _ => rfl
  have b_K_mul := F_K_mul.binds (ps := ["self", "other"]) fun _ _ _ _ _ _ us hl => match us, hl with | [_, _], _ => rfl
  have b_form_of := F_form_of.binds (ps := ["keys"]) fun _ _ _ _ _ _ us hl => match us, hl with | [_], _ => rfl
  have b_K_written := F_K_written.binds (ps := ["self"]) fun _ _ _ _ _ _ us hl => match us, hl with | [_], _ => rfl
  refine ok_fun Fn sc__law_forms_right (fun ds O Q h => ?_) (fun cdv A outer s H E Z ds O Q hr h => ?_)
  · obtain ⟨p, ct, rfl, rfl, hct, h⟩ := h; rfl
  · obtain ⟨p, ct, rfl, rfl, hct, h⟩ := h
    refine wb_cons (ws_par 1 2 ?_ sc__law_forms_right.nd)
    refine we_make kc.mki G_K_init (hr.mono (by decide)) kc.m b_K_init pass0 ?_
    refine wa_cons ?_
    refine we_callP G__law_still (hr.mono (by decide)) m__law_still F__law_still.kp b__law_still pass0 ?_
    refine wa_cons ?_
    refine we_var 0 rfl ?_
    refine wa_cons ?_
    refine we_int ?_
    refine wa_nil ?_
    refine cd1 0 rfl ⟨_, _, _, rfl, rfl, by decide, by decide, by omega, fun l1 hl1 hk1 => ⟨_, rfl, ?_⟩⟩
    replace hl1 : l1.length ≤ 40 := hl1
    refine wa_nil ?_
    refine fun a2 na2 => cdI [("key_text", .str _)] ⟨_, _, rfl, by walk_at "sz", by walk_at "key", rfl, rfl, rfl⟩ ?_
    refine we_make kc.mki G_K_init (hr.mono (by decide)) kc.m b_K_init pass0 ?_
    refine wa_cons ?_
    refine we_callP G__law_still (hr.mono (by decide)) m__law_still F__law_still.kp b__law_still pass0 ?_
    refine wa_cons ?_
    refine we_var 0 rfl ?_
    refine wa_cons ?_
    refine we_int ?_
    refine wa_nil ?_
    refine cd1 0 rfl ⟨_, _, _, rfl, rfl, by decide, by decide, by omega, fun l2 hl2 hk2 => ⟨_, rfl, ?_⟩⟩
    replace hl2 : l2.length ≤ 9 := hl2
    refine wa_nil ?_
    refine fun a4 na4 => cdI [("key_text", .str _)] ⟨_, _, rfl, by walk_at "sz", by walk_at "key", rfl, rfl, rfl⟩ ?_
    have s1 := still_keys hk1
    have s2 := still_keys hk2
    have s12 := still_app hk1 hk2
    have l12 : (l1 ++ l2).length ≤ 60 := by rw [List.length_append]; omega
    have l23 := repL_bd (n := 3) 9 3 hl2 (by decide) (by decide)
    have s23 : ∀ c ∈ repL l2 3, stillC c := by rw [repL_three]; exact still_app (still_app hk2 hk2) hk2
    have p1 := fm_le (fm_ok l1) (show l1.length ≤ 60 by omega)
    have p2 := fm_le (fm_ok l2) (show l2.length ≤ 60 by omega)
    refine wb_cons (ws_if ?_)
    refine wt_C ?_
    refine we_callP G_form_of (hr.mono (by decide)) m_form_of F_form_of.kp b_form_of pass0 ?_
    refine wa_cons ?_
    refine we_prop kc.cl kc.pw G_K_written (hr.mono (by decide)) b_K_written pass0 ?_
    refine we_B ?_
    refine we_var 1 rfl ?_
    refine we_var 2 rfl ?_
    refine ⟨_, op_binC kc.sf kc.mad (fnr G_K_add b_K_add) (hr.mono (by decide)) pass0, opd_2C kc.ity InsD.self InsD.self (cdp0 ⟨_, _, rfl, by walk_at "sz", by walk_at "key", by walk_at "key", rfl, ?_⟩)⟩
    refine ⟨⟨_, InsD.self⟩, cdp0 ⟨_, rfl, rfl, ?_⟩⟩
    refine wa_nil ?_
    refine cdp0 ⟨_, rfl, ⟨by omega, by exact still_keys s12, still_no s12⟩, rfl, ?_⟩
    refine we_callR (G_joined.mono (by decide : _ ≤ 4)) (hr.mono (by decide)) m_joined F_joined.kp pass0 ?_
    refine wa_cons ?_
    refine we_callP G_form_of (hr.mono (by decide)) m_form_of F_form_of.kp b_form_of pass0 ?_
    refine wa_cons ?_
    refine we_prop kc.cl kc.pw G_K_written (hr.mono (by decide)) b_K_written pass0 ?_
    refine we_var 1 rfl ?_
    refine ⟨⟨_, InsD.self⟩, cdp0 ⟨_, rfl, rfl, ?_⟩⟩
    refine wa_nil ?_
    refine cdp0 ⟨_, rfl, ⟨by omega, by assumption, still_no hk1⟩, rfl, ?_⟩
    refine wa_cons ?_
    refine we_callP G_form_of (hr.mono (by decide)) m_form_of F_form_of.kp b_form_of pass0 ?_
    refine wa_cons ?_
    refine we_prop kc.cl kc.pw G_K_written (hr.mono (by decide)) b_K_written pass0 ?_
    refine we_var 2 rfl ?_
    refine ⟨⟨_, InsD.self⟩, cdp0 ⟨_, rfl, rfl, ?_⟩⟩
    refine wa_nil ?_
    refine cdp0 ⟨_, rfl, ⟨by omega, by assumption, still_no hk2⟩, rfl, ?_⟩
    refine wa_nil ?_
    refine cdp0 ⟨[fmD (fmF l1)], [fmF l2].map fmD, rfl, rfl, by rw [szl]; simp, ⟨fmF l1, [fmF l2], 60, rfl, ⟨p1, by simp; exact p2, by decide, by simp⟩, rfl, ?_⟩⟩
    rw [show [fmF l2].foldl joinF (fmF l1) = fmF (l1 ++ l2) from (fm_app l1 l2).symm]
    refine c_neD (n := 8) (m := 8) (hu64 hr) Vw.self Vw.self (fm_okN (fm_ok _)) (fm_okN (fm_ok _)) ?_
    refine wt_bl ?_
    refine ⟨fun eT14 => ?_, fun eT14 => ?_⟩
    · exact absurd eT14 (by rw [eqD_refl (fm_okN (fm_ok _))]; decide)
    refine wb_nil ?_
    refine wb_cons (ws_set 3 ?_ sc__law_forms_right.nd)
    refine we_callP G_form_of (hr.mono (by decide)) m_form_of F_form_of.kp b_form_of pass0 ?_
    refine wa_cons ?_
    refine we_prop kc.cl kc.pw G_K_written (hr.mono (by decide)) b_K_written pass0 ?_
    refine we_var 2 rfl ?_
    refine ⟨⟨_, InsD.self⟩, cdp0 ⟨_, rfl, rfl, ?_⟩⟩
    refine wa_nil ?_
    refine cdp0 ⟨_, rfl, ⟨by omega, by assumption, still_no hk2⟩, rfl, ?_⟩
    refine wb_one (ws_ret ?_)
    refine we_C ?_
    refine we_callP G_form_of (hr.mono (by decide)) m_form_of F_form_of.kp b_form_of pass0 ?_
    refine wa_cons ?_
    refine we_prop kc.cl kc.pw G_K_written (hr.mono (by decide)) b_K_written pass0 ?_
    refine we_B ?_
    refine we_var 2 rfl ?_
    refine we_int ?_
    refine ⟨_, op_binT kc.bmul kc.mmu (fnr G_K_mul b_K_mul) (hr.mono (by decide)) pass0, opd_2I InsD.self (cdp0 ⟨_, _, rfl, kmul_of 9 3 hl2 (by decide) (by decide), by walk_at "key", rfl, ?_⟩)⟩
    refine ⟨⟨_, InsD.self⟩, cdp0 ⟨_, rfl, rfl, ?_⟩⟩
    refine wa_nil ?_
    refine cdp0 ⟨_, rfl, ⟨by omega, by exact still_keys s23, still_no s23⟩, rfl, ?_⟩
    refine we_callR (G_joined.mono (by decide : _ ≤ 4)) (hr.mono (by decide)) m_joined F_joined.kp pass0 ?_
    refine wa_cons ?_
    refine we_var 3 rfl ?_
    refine wa_cons ?_
    refine we_var 3 rfl ?_
    refine wa_cons ?_
    refine we_var 3 rfl ?_
    refine wa_nil ?_
    refine cdp0 ⟨[fmD (fmF l2)], [fmF l2, fmF l2].map fmD, rfl, rfl, by rw [szl]; simp, ⟨fmF l2, [fmF l2, fmF l2], 60, rfl, ⟨p2, by simp; exact p2, by decide, by simp⟩, rfl, ?_⟩⟩
    rw [show [fmF l2, fmF l2].foldl joinF (fmF l2) = fmF (repL l2 3) from by rw [repL_three, fm_app, fm_app]; rfl]
    refine c_eqD (n := 8) (m := 8) (hu64 hr) Vw.self Vw.self (fm_okN (fm_ok _)) (fm_okN (fm_ok _)) ?_
    rw [eqD_refl (fm_okN (fm_ok _))]
    exact h

abbrev s_law : Stmt := top 58
abbrev N_law : List Str := ["script", "k", "bag", "turn", "a", "b", "c", "part"]
theorem sc_law : FnScope N_law ["script"] (defScope s_law) := ⟨rfl, rfl, rfl, by decide +kernel, rfl, by decide +kernel, by decide +kernel⟩
def pd_law : PD := fun ds O Q => ∃ xs : List Int, ds = [.rl (xs.map D.int)] ∧ O = [] ∧ ∀ O', Q (.bl true) O'
theorem ok_law {f : Addr} {fd : FuncData} (Fn : Fun K "law" "law" s_law f fd) (T : Bt mg) {C gi gw pw ge gl gc gg ga gm gn gb gca : Addr} (kc : KC K mg C gi gw pw ge gl gc gg ga gm gn gb gca) {f__law_cell_at : Addr} {fd__law_cell_at : FuncData} (F__law_cell_at : Fun K "_law_cell_at" "_law_cell_at" s__law_cell_at f__law_cell_at fd__law_cell_at) (m__law_cell_at : mg "_law_cell_at" = some (.ref f__law_cell_at)) (G__law_cell_at : FnOk P w K mg base CX0 1 f__law_cell_at fd__law_cell_at ["script", "k"] (spD K pd__law_cell_at)) {f__law_bag : Addr} {fd__law_bag : FuncData} (F__law_bag : Fun K "_law_bag" "_law_bag" s__law_bag f__law_bag fd__law_bag) (m__law_bag : mg "_law_bag" = some (.ref f__law_bag)) (G__law_bag : FnOk P w K mg base CX0 1 f__law_bag fd__law_bag ["cell", "k"] (spD K pd__law_bag)) {f__law_list : Addr} {fd__law_list : FuncData} (F__law_list : Fun K "_law_list" "_law_list" s__law_list f__law_list fd__law_list) (m__law_list : mg "_law_list" = some (.ref f__law_list)) (G__law_list : FnOk P w K mg base CX0 2 f__law_list fd__law_list ["bag", "top"] (spD K pd__law_list)) {fd_K_init : FuncData} (F_K_init : Fun K "__init__" "Keys.__init__" s_K_init gi fd_K_init) (G_K_init : FnOk P w K mg base CX0 4 gi fd_K_init ["self", "text"] (spD K (pd_K_init C))) {f__law_sums_right : Addr} {fd__law_sums_right : FuncData} (F__law_sums_right : Fun K "_law_sums_right" "_law_sums_right" s__law_sums_right f__law_sums_right fd__law_sums_right) (m__law_sums_right : mg "_law_sums_right" = some (.ref f__law_sums_right)) (G__law_sums_right : FnOk P w K mg base CX0 12 f__law_sums_right fd__law_sums_right ["bag", "a", "b", "c"] (spD K (pd__law_sums_right C))) {f__law_numbers_right : Addr} {fd__law_numbers_right : FuncData} (F__law_numbers_right : Fun K "_law_numbers_right" "_law_numbers_right" s__law_numbers_right f__law_numbers_right fd__law_numbers_right) (m__law_numbers_right : mg "_law_numbers_right" = some (.ref f__law_numbers_right)) (G__law_numbers_right : FnOk P w K mg base CX0 12 f__law_numbers_right fd__law_numbers_right ["a", "b"] (spD K (pd__law_numbers_right C))) {f__law_forms_right : Addr} {fd__law_forms_right : FuncData} (F__law_forms_right : Fun K "_law_forms_right" "_law_forms_right" s__law_forms_right f__law_forms_right fd__law_forms_right) (m__law_forms_right : mg "_law_forms_right" = some (.ref f__law_forms_right)) (G__law_forms_right : FnOk P w K mg base CX0 12 f__law_forms_right fd__law_forms_right ["bag"] (spD K pd__law_forms_right)) : FnOk P w K mg base CX0 13 f fd ["script"] (spD K pd_law) := by
  have b__law_cell_at := F__law_cell_at.binds (ps := ["script", "k"]) fun _ _ _ _ _ _ us hl => match us, hl with | [_, _], _ => rfl
  have b__law_bag := F__law_bag.binds (ps := ["cell", "k"]) fun _ _ _ _ _ _ us hl => match us, hl with | [_, _], _ => rfl
  have b__law_list := F__law_list.binds (ps := ["bag", "top"]) fun _ _ _ _ _ _ us hl => match us, hl with | [_, _], _ => rfl
  have b_K_init := F_K_init.binds (ps := ["self", "text"]) fun _ _ _ _ _ _ us hl => match us, hl with | [_, _], _ => rfl
  have b__law_sums_right := F__law_sums_right.binds (ps := ["bag", "a", "b", "c"]) fun _ _ _ _ _ _ us hl => match us, hl with | [_, _, _, _], _ => rfl
  have b__law_numbers_right := F__law_numbers_right.binds (ps := ["a", "b"]) fun _ _ _ _ _ _ us hl => match us, hl with | [_, _], _ => rfl
  have b__law_forms_right := F__law_forms_right.binds (ps := ["bag"]) fun _ _ _ _ _ _ us hl => match us, hl with | [_], _ => rfl
  refine ok_fun Fn sc_law (fun ds O Q h => ?_) (fun cdv A outer s H E Z ds O Q hr h => ?_)
  · obtain ⟨xs, rfl, rfl, h⟩ := h; rfl
  · obtain ⟨xs, rfl, rfl, h⟩ := h
    refine wb_cons (ws_for [1] ?_)
    refine wi_range1 T.range ?_
    refine we_max2 T.max ?_
    refine we_int ?_
    refine we_min2 T.min ?_
    refine we_int ?_
    refine we_len T.len ?_
    refine we_var 0 rfl ?_
    walk_at "len"
    refine ⟨_, _, rfl, rfl, ?_⟩
    refine ⟨_, _, rfl, rfl, ?_⟩
    refine ⟨_, rfl, by walk_at "rng", by walk_at "rng", ?_⟩
    refine ⟨fun i Γ' O' => ∃ t1 t2 t3 t4 t5 t6 t7, Γ' = [_, t1, t2, t3, t4, t5, t6, t7] ∧ O' = [], ⟨_, _, _, _, _, _, _, rfl, rfl⟩, fun _ _ _ _ => trivial, fun i d Γ' O' hd hI => ?_, fun Γ' O' hI => ?_⟩
    · obtain ⟨t1, t2, t3, t4, t5, t6, t7, rfl, rfl⟩ := hI
      obtain ⟨hi, rfl⟩ := rangeD_get hd
      have hi8 : i < 8 := by omega
      rw [Int.zero_add]
      refine wg_name 1 ?_ sc_law.nd
      refine wb_cons (ws_set 2 ?_ sc_law.nd)
      refine we_callP G__law_bag (hr.mono (by decide)) m__law_bag F__law_bag.kp b__law_bag pass0 ?_
      refine wa_cons ?_
      refine we_callP G__law_cell_at (hr.mono (by decide)) m__law_cell_at F__law_cell_at.kp b__law_cell_at pass0 ?_
      refine wa_cons ?_
      refine we_var 0 rfl ?_
      refine wa_cons ?_
      refine we_var 1 rfl ?_
      refine wa_nil ?_
      refine cdp0 ⟨_, _, rfl, rfl, fun x6 => ?_⟩
      refine wa_cons ?_
      refine we_var 1 rfl ?_
      refine wa_nil ?_
      refine cdp0 ⟨_, _, rfl, by omega, rfl, fun pb bd hbd => ?_⟩
      refine wb_recell 0 rfl (pr_close (φ := isBag 0) hbd) ?_
      show WB _ _ _ _ [(pb, .pr (isBag 0))] _
      refine wb_cons (ws_for [3] ?_)
      refine wi_range1 T.range ?_
      refine we_int ?_
      refine ⟨_, rfl, by walk_at "rng", by walk_at "rng", ?_⟩
      refine ⟨fun j Γ' O' => ∃ t3 t4 t5 t6 t7, Γ' = [_, _, _, t3, t4, t5, t6, t7] ∧ O' = [(pb, .pr (isBag (1002 * j)))], ⟨_, _, _, _, _, rfl, rfl⟩, fun _ _ _ _ => trivial, fun i d Γ' O' hd hI => ?_, fun Γ' O' hI => ?_⟩
      · obtain ⟨t3, t4, t5, t6, t7, rfl, rfl⟩ := hI
        obtain ⟨hj, rfl⟩ := rangeD_get hd
        have hj3 : i < 5 := hj
        refine wg_name 3 ?_ sc_law.nd
        refine wb_cons (ws_unp (vs := [4, 5, 6]) ?_)
        refine we_lcR (fun i : Nat => D.int (0 + i)) (fun _ d => ∃ l : List Nat, d = kw C l ∧ l.length ≤ 40 ∧ l.all isKey = true) (fun j => [(pb, .pr (isBag (1002 * i + 200 * j)))]) (own := [("part", 7)]) ?_ sc_law.nd (blkOk_by (N := N_law) (sc := defScope s_law) (by decide +kernel))
        refine wi_range1 T.range ?_
        refine we_int ?_
        refine ⟨_, rfl, by walk_at "rng", by walk_at "rng", ?_⟩
        refine ⟨_, rfl, fun _ => trivial, rfl, by decide, fun b a ha F' => ?_, fun acc hacc => ?_⟩
        · intro s0 H0 A0 cl0 fp0
          obtain ⟨rfl, hb⟩ := range_get ha
          have hb : a < 3 := hb
          obtain ⟨tt, htt, ht0, ht1⟩ := limit3 hb
          refine wg_name 7 ?_ sc_law.nd
          intro s0 H0 A0 cl0 fp0
          refine we_make kc.mki G_K_init (hr.mono (by decide)) kc.m b_K_init pass0 ?_
          refine wa_cons ?_
          refine we_callP G__law_list (hr.mono (by decide)) m__law_list F__law_list.kp b__law_list pass0 ?_
          refine wa_cons ?_
          refine we_var 2 rfl ?_
          refine wa_cons ?_
          refine we_X ?_
          refine we_lst ?_
          refine wa_cons ?_
          refine we_int ?_
          refine wa_cons ?_
          refine we_int ?_
          refine wa_cons ?_
          refine we_int ?_
          refine wa_nil ?_
          refine ⟨by walk_at "sz", ?_⟩
          refine .inl ?_
          refine we_var 7 rfl ?_
          refine ix_L Vw.self htt ?_
          refine wa_nil ?_
          refine cd1 0 rfl ⟨_, _, _, rfl, rfl, ht0, by omega, by omega, fun ll hll hkk => ⟨_, rfl, ?_⟩⟩
          refine wa_nil ?_
          refine fun a14 na14 => cdI [("key_text", .str _)] ⟨_, _, rfl, by walk_at "sz", by walk_at "key", rfl, rfl, rfl⟩ ?_
          exact ⟨⟨_, rfl, by omega, hkk⟩, by show [(pb, OC.pr (isBag (1002 * i + 200 * a + 200)))] = [(pb, OC.pr (isBag (1002 * i + 200 * (a + 1))))]; rw [Nat.mul_succ, ← Nat.add_assoc]⟩
        obtain ⟨la, lb, lc, rfl, ⟨a0, a1⟩, ⟨b0, b1⟩, ⟨c0, c1⟩⟩ := three_kw hacc
        refine .inl ?_
        refine wg_unl (by walk_at "vw") (wgs_cons (wg_name 4 (wgs_cons (wg_name 5 (wgs_cons (wg_name 6 (wgs_nil ?_) sc_law.nd)) sc_law.nd)) sc_law.nd))
        show WB _ _ _ _ [(pb, .pr (isBag (1002 * i + 600)))] _
        refine wb_cons (ws_if ?_)
        refine wt_ww ?_
        refine ww_or ?_
        refine wt_not ?_
        refine wt_val ?_
        refine we_callP G__law_sums_right (hr.mono (by decide)) m__law_sums_right F__law_sums_right.kp b__law_sums_right pass0 ?_
        refine wa_cons ?_
        refine we_var 2 rfl ?_
        refine wa_cons ?_
        refine we_var 4 rfl ?_
        refine wa_cons ?_
        refine we_var 5 rfl ?_
        refine wa_cons ?_
        refine we_var 6 rfl ?_
        refine wa_nil ?_
        refine cd1 0 rfl ⟨_, _, _, _, _, rfl, rfl, ⟨⟨by assumption, by assumption⟩, ⟨by assumption, by assumption⟩, ⟨by assumption, by assumption⟩⟩, by omega, ⟨_, rfl, ?_⟩⟩
        refine wt_bl ?_
        refine ⟨(fun e => nomatch e), fun _ => ?_⟩
        refine ww_or ?_
        refine wt_not ?_
        refine wt_val ?_
        refine we_callP G__law_numbers_right (hr.mono (by decide)) m__law_numbers_right F__law_numbers_right.kp b__law_numbers_right pass0 ?_
        refine wa_cons ?_
        refine we_var 4 rfl ?_
        refine wa_cons ?_
        refine we_var 5 rfl ?_
        refine wa_nil ?_
        refine cdp0 ⟨_, _, rfl, ⟨⟨by assumption, by assumption⟩, ⟨by assumption, by assumption⟩⟩, rfl, ?_⟩
        refine wt_bl ?_
        refine ⟨(fun e => nomatch e), fun _ => ?_⟩
        refine ww_or1 ?_
        refine wt_not ?_
        refine wt_val ?_
        refine we_callP G__law_forms_right (hr.mono (by decide)) m__law_forms_right F__law_forms_right.kp b__law_forms_right pass0 ?_
        refine wa_cons ?_
        refine we_var 2 rfl ?_
        refine wa_nil ?_
        refine cd1 0 rfl ⟨_, _, rfl, rfl, by omega, ⟨_, rfl, ?_⟩⟩
        refine wt_bl ?_
        refine ⟨fun eT18 => ?_, fun eT18 => ?_⟩
        · exact nomatch eT18
        refine wb_nil ?_
        refine wb_nil ?_
        exact ⟨_, _, _, _, _, rfl, by show [(pb, OC.pr (isBag (1002 * i + 600 + 2 + 400)))] = [(pb, OC.pr (isBag (1002 * (i + 1))))]; rw [Nat.mul_succ]⟩
      obtain ⟨t3, t4, t5, t6, t7, rfl, rfl⟩ := hI
      refine wb_drop ?_
      refine wb_nil ?_
      exact ⟨_, _, _, _, _, _, _, rfl, rfl⟩
    obtain ⟨t1, t2, t3, t4, t5, t6, t7, rfl, rfl⟩ := hI
    refine wb_one (ws_ret ?_)
    refine we_bl ?_
    exact h _

end
end Ck

namespace Ck
open PySem PySem.Spec PyProof.Rows L2 Dl He
def fnX0 : List DX := [⟨fun K => ga K "is_integer", "is_integer", "is_integer", s_is_integer, []⟩,
  ⟨fun K => ga K "is_key", "is_key", "is_key", s_is_key, []⟩,
  ⟨fun K => ga K "is_keys", "is_keys", "is_keys", s_is_keys, []⟩,
  ⟨fun K => ga K "check_keys", "check_keys", "check_keys", s_check_keys, []⟩,
  ⟨fun K => ga K "sums_of", "sums_of", "sums_of", s_sums_of, []⟩,
  ⟨fun K => ga K "check_still", "check_still", "check_still", s_check_still, []⟩,
  ⟨fun K => ga K "is_form", "is_form", "is_form", s_is_form, []⟩,
  ⟨fun K => ga K "check_form", "check_form", "check_form", s_check_form, []⟩,
  ⟨fun K => ga K "form_from", "form_from", "form_from", s_form_from, []⟩,
  ⟨fun K => ga K "form_of", "form_of", "form_of", s_form_of, []⟩,
  ⟨fun K => ga K "joined_two", "joined_two", "joined_two", s_joined_two, []⟩,
  ⟨fun K => ga K "joined", "joined", "joined", s_joined, []⟩,
  ⟨fun K => ga K "far_run", "far_run", "far_run", s_far_run, []⟩,
  ⟨fun K => ga K "reach_of", "reach_of", "reach_of", s_reach_of, []⟩,
  ⟨fun K => ga K "depth_of", "depth_of", "depth_of", s_depth_of, []⟩,
  ⟨fun K => ga K "net_of", "net_of", "net_of", s_net_of, []⟩,
  ⟨fun K => ma K (ga K "Keys") "__init__", "__init__", "Keys.__init__", s_K_init, []⟩,
  ⟨fun K => getAt K (ga K "Keys") "written", "written", "Keys.written", s_K_written, []⟩,
  ⟨fun K => ma K (ga K "Keys") "__eq__", "__eq__", "Keys.__eq__", s_K_eq, []⟩,
  ⟨fun K => ma K (ga K "Keys") "__len__", "__len__", "Keys.__len__", s_K_len, []⟩]
def fnX1 : List DX := [⟨fun K => ma K (ga K "Keys") "__contains__", "__contains__", "Keys.__contains__", s_K_contains, []⟩,
  ⟨fun K => ma K (ga K "Keys") "__getitem__", "__getitem__", "Keys.__getitem__", s_K_getitem, []⟩,
  ⟨fun K => ma K (ga K "Keys") "__add__", "__add__", "Keys.__add__", s_K_add, []⟩,
  ⟨fun K => ma K (ga K "Keys") "__mul__", "__mul__", "Keys.__mul__", s_K_mul, []⟩,
  ⟨fun K => ma K (ga K "Keys") "__neg__", "__neg__", "Keys.__neg__", s_K_neg, []⟩,
  ⟨fun K => ma K (ga K "Keys") "begins", "begins", "Keys.begins", s_K_begins, []⟩,
  ⟨fun K => ga K "_law_cell_at", "_law_cell_at", "_law_cell_at", s__law_cell_at, []⟩,
  ⟨fun K => ga K "_law_bag", "_law_bag", "_law_bag", s__law_bag, []⟩,
  ⟨fun K => ga K "_law_take", "_law_take", "_law_take", s__law_take, []⟩,
  ⟨fun K => ga K "_law_list", "_law_list", "_law_list", s__law_list, []⟩,
  ⟨fun K => ga K "_law_still", "_law_still", "_law_still", s__law_still, []⟩,
  ⟨fun K => ga K "_law_sums_right", "_law_sums_right", "_law_sums_right", s__law_sums_right, []⟩,
  ⟨fun K => ga K "_law_numbers_right", "_law_numbers_right", "_law_numbers_right", s__law_numbers_right, []⟩,
  ⟨fun K => ga K "_law_forms_right", "_law_forms_right", "_law_forms_right", s__law_forms_right, []⟩,
  ⟨fun K => ga K "law", "law", "law", s_law, []⟩]
def fnX : List DX := fnX0 ++ fnX1
def faX0 : List Fa := [.free "len", .free "max", .free "min", .free "range", .free "isinstance", .free "all", .free "any", .free "sum", .free "zip", .free "enumerate", .free "sorted", .free "repr", .free "int", .free "str", .free "bool", .free "list", .free "tuple", .free "set", .free "dict", .free "abs"]
def faX1 : List Fa := [.glo "is_integer", .glo "is_key", .glo "is_keys", .glo "check_keys", .glo "sums_of", .glo "check_still", .glo "is_form", .glo "check_form", .glo "form_from", .glo "form_of", .glo "joined_two", .glo "joined", .glo "far_run", .glo "reach_of", .glo "depth_of", .glo "net_of", .glo "_law_cell_at", .glo "_law_bag", .glo "_law_take", .glo "_law_list"]
def faX2 : List Fa := [.glo "_law_still", .glo "_law_sums_right", .glo "_law_numbers_right", .glo "_law_forms_right", .glo "law", .str "LETTERS" "abcdefghijklmnopqrstuvwxyz", .str "BACKSPACE" "-", .str "DELETE" "#", .str "LEFT" "<", .str "RIGHT" ">", .glo "Keys", .int "MOST_KEYS" 300, .cls "Keys", .mkr "Keys", .noat "Keys" "key_text", .meth "Keys" "begins", .glo "MOVES"]
def faX : List Fa := faX0 ++ faX1 ++ faX2
def ckL0 (K : PySem.W.Frag) : List Bool := [ckOwn K (ga K "Keys") "__eq__", ckOwn K (ga K "Keys") "__len__", ckOwn K (ga K "Keys") "__contains__", ckOwn K (ga K "Keys") "__getitem__", ckOwn K (ga K "Keys") "__add__", ckOwn K (ga K "Keys") "__mul__", ckOwn K (ga K "Keys") "__neg__", ckIns K (ga K "Keys"), ckProp K (ga K "Keys") "written", eqO (PySem.W.findIn K (.ref (ga K "Keys")) "__ne__") (some (some (.builtin "object.__ne__"))), eqB (PySem.W.subIn K (.ref (ga K "Keys")) (.type "object")) (some true), eqO (PySem.W.findIn K (.ref (ga K "Keys")) "__bool__") (some none), PySem.W.selfFirst K (ga K "Keys"), ckBinT K (ga K "Keys") .Mult "int", ckCall K (ga K "Keys"), ckTupS K "MOVES" [[60], [62]]]
def ckL (K : PySem.W.Frag) : List Bool := ckL0 K
def ckX (K : PySem.W.Frag) : Bool := (faX.all fun f => f.ok K) && (ckL K).all id
abbrev R : PySem.W.OpenRow := PySem.W.OpenLaw.row PySem.Challenge.rw_cursorkeys_k38_whole_keys_objects
abbrev hk : PySem.W.Hook := hookX 6 ckX fnX
def ob (s : PySem.W.SharedT) : AlX := obsXG 6 ckX fnX (HandSHeadRun.getT s)
theorem ob_eq (s : PySem.W.SharedT) : ob s = hk.obs s.abs := obsXG_eq (HandSHeadRun.getT_eq s)
def loose0 : List Str := ["__name__", "KeyListError", "InvalidText", "InvalidCursors", "InvalidKeys", "InvalidIndex", "HasMoves", "InvalidForm", "InvalidRounds", "NotKeys", "TooLong", "LETTERS", "CAPITALS", "BACKSPACE", "DELETE"]
def loose1 : List Str := ["LEFT", "RIGHT", "MOVES", "is_integer", "is_key", "is_keys", "is_text", "is_cursors", "check_text", "check_cursors", "check_keys", "stretches_of", "places_without_copies", "state_with", "step_key"]
def loose2 : List Str := ["pressed", "MOST_KEYS", "Keys", "check_still", "is_form", "check_form", "form_from", "form_of", "joined_two", "joined", "far_run", "sums_of", "reach_of", "depth_of", "net_of"]
def loose3 : List Str := ["_law_cell_at", "_law_bag", "_law_take", "_law_still", "_law_list", "_law_sums_right", "_law_numbers_right", "_law_forms_right"]
def looseX : List Str := loose0 ++ loose1 ++ loose2 ++ loose3
theorem run (w : World) : HandSHeadRun.RunEq R (PySem.W.view R.prog [58]) hk ob 9000 looseX w := by
  intro os
  kernel_rfl
section
variable {P : Program} {w : World} {K : PySem.W.Frag} {h : Heap} {mg : Str → Option Value} {f : Addr}
theorem fact_ (c : SaysX ckX fnX K) (i : Nat) {f : Fa} (hf : faX[i]? = some f := by rfl) : f.ok K = true := List.all_eq_true.mp (ba c.ck_).1 f (List.mem_of_getElem? hf)
theorem chk_ (c : SaysX ckX fnX K) (i : Nat) {k : Bool} (hf : (ckL K)[i]? = some k) : k = true := List.all_eq_true.mp (ba c.ck_).2 k (List.mem_of_getElem? hf)
theorem bt_ (X : K.In h) (G : h.Ns mainGlobals mg) (c : SaysX ckX fnX K) : Bt mg := ⟨free_ok X G (fact_ c 0 (f := .free "len") rfl), free_ok X G (fact_ c 1 (f := .free "max") rfl), free_ok X G (fact_ c 2 (f := .free "min") rfl), free_ok X G (fact_ c 3 (f := .free "range") rfl), free_ok X G (fact_ c 4 (f := .free "isinstance") rfl), free_ok X G (fact_ c 5 (f := .free "all") rfl), free_ok X G (fact_ c 6 (f := .free "any") rfl), free_ok X G (fact_ c 7 (f := .free "sum") rfl), free_ok X G (fact_ c 8 (f := .free "zip") rfl), free_ok X G (fact_ c 9 (f := .free "enumerate") rfl), free_ok X G (fact_ c 10 (f := .free "sorted") rfl), free_ok X G (fact_ c 11 (f := .free "repr") rfl), free_ok X G (fact_ c 12 (f := .free "int") rfl), free_ok X G (fact_ c 13 (f := .free "str") rfl), free_ok X G (fact_ c 14 (f := .free "bool") rfl), free_ok X G (fact_ c 15 (f := .free "list") rfl), free_ok X G (fact_ c 16 (f := .free "tuple") rfl), free_ok X G (fact_ c 17 (f := .free "set") rfl), free_ok X G (fact_ c 18 (f := .free "dict") rfl), free_ok X G (fact_ c 19 (f := .free "abs") rfl)⟩
theorem gs_ (X : K.In h) (G : h.Ns mainGlobals mg) (c : SaysX ckX fnX K) : Gs mg := ⟨str_ok X G (fact_ c 45 (f := .str "LETTERS" "abcdefghijklmnopqrstuvwxyz") rfl), str_ok X G (fact_ c 46 (f := .str "BACKSPACE" "-") rfl), str_ok X G (fact_ c 47 (f := .str "DELETE" "#") rfl), str_ok X G (fact_ c 48 (f := .str "LEFT" "<") rfl), str_ok X G (fact_ c 49 (f := .str "RIGHT" ">") rfl)⟩
theorem kc_ (X : K.In h) (G : h.Ns mainGlobals mg) (c : SaysX ckX fnX K) : KC K mg (ga K "Keys") (ma K (ga K "Keys") "__init__") (getAt K (ga K "Keys") "written") (ma K (ga K "Keys") "written") (ma K (ga K "Keys") "__eq__") (ma K (ga K "Keys") "__len__") (ma K (ga K "Keys") "__contains__") (ma K (ga K "Keys") "__getitem__") (ma K (ga K "Keys") "__add__") (ma K (ga K "Keys") "__mul__") (ma K (ga K "Keys") "__neg__") (ma K (ga K "Keys") "begins") (ma K (ga K "Keys") "__call__") := ⟨glo_ok X G (fact_ c 50 (f := .glo "Keys") rfl), int_ok X G (fact_ c 51 (f := .int "MOST_KEYS" 300) rfl), cls_ok (fact_ c 52 (f := .cls "Keys") rfl), mkr_ok (fact_ c 53 (f := .mkr "Keys") rfl), noat_ok (fact_ c 54 (f := .noat "Keys" "key_text") rfl), ckIns_ok (cls_ok (fact_ c 52 (f := .cls "Keys") rfl)) (chk_ c 7 rfl), ckProp_ok (chk_ c 8 rfl), ckOwn_ok (chk_ c 0 rfl), eqO_ok (chk_ c 9 rfl), eq_of_beq (chk_ c 10 rfl), ckOwn_ok (chk_ c 1 rfl), eqO_ok (chk_ c 11 rfl), ckOwn_ok (chk_ c 2 rfl), ckOwn_ok (chk_ c 3 rfl), ckOwn_ok (chk_ c 4 rfl), ckOwn_ok (chk_ c 5 rfl), ckOwn_ok (chk_ c 6 rfl), meth_ok (fact_ c 55 (f := .meth "Keys" "begins") rfl), chk_ c 12 rfl, ckBinT_ok (chk_ c 13 rfl), ckCall_ok (chk_ c 14 rfl)⟩
theorem gm__ (X : K.In h) (G : h.Ns mainGlobals mg) (c : SaysX ckX fnX K) : TupS K mg "MOVES" [[60], [62]] := ⟨_, glo_ok X G (fact_ c 56 (f := .glo "MOVES") rfl), ckTupS_ok (chk_ c 15 rfl)⟩
theorem facts (X : K.In h) (G : h.Ns mainGlobals mg) (hfa : mg "law" = some (.ref f)) (c : SaysX ckX fnX K) :
    ∃ fd : FuncData, (∀ (s : Shared) (v : Value), BindsTo s fd ⟨[v], []⟩ [("script", v)]) ∧ ∀ base : Heap, K.In base → base.Ns mainGlobals mg → FnOk P w K mg base CX0 13 f fd ["script"] (spD K pd_law) := by
  have T := bt_ X G c
  have gs := gs_ X G c
  have kc := kc_ X G c
  have gm_ := gm__ X G c
  obtain ⟨fd_is_integer, FD_is_integer⟩ := c.defD 0 rfl
  have F_is_integer : Fun K "is_integer" "is_integer" s_is_integer (ga K "is_integer") fd_is_integer := fun_ofD FD_is_integer
  obtain ⟨fd_is_key, FD_is_key⟩ := c.defD 1 rfl
  have F_is_key : Fun K "is_key" "is_key" s_is_key (ga K "is_key") fd_is_key := fun_ofD FD_is_key
  obtain ⟨fd_is_keys, FD_is_keys⟩ := c.defD 2 rfl
  have F_is_keys : Fun K "is_keys" "is_keys" s_is_keys (ga K "is_keys") fd_is_keys := fun_ofD FD_is_keys
  obtain ⟨fd_check_keys, FD_check_keys⟩ := c.defD 3 rfl
  have F_check_keys : Fun K "check_keys" "check_keys" s_check_keys (ga K "check_keys") fd_check_keys := fun_ofD FD_check_keys
  obtain ⟨fd_sums_of, FD_sums_of⟩ := c.defD 4 rfl
  have F_sums_of : Fun K "sums_of" "sums_of" s_sums_of (ga K "sums_of") fd_sums_of := fun_ofD FD_sums_of
  obtain ⟨fd_check_still, FD_check_still⟩ := c.defD 5 rfl
  have F_check_still : Fun K "check_still" "check_still" s_check_still (ga K "check_still") fd_check_still := fun_ofD FD_check_still
  obtain ⟨fd_is_form, FD_is_form⟩ := c.defD 6 rfl
  have F_is_form : Fun K "is_form" "is_form" s_is_form (ga K "is_form") fd_is_form := fun_ofD FD_is_form
  obtain ⟨fd_check_form, FD_check_form⟩ := c.defD 7 rfl
  have F_check_form : Fun K "check_form" "check_form" s_check_form (ga K "check_form") fd_check_form := fun_ofD FD_check_form
  obtain ⟨fd_form_from, FD_form_from⟩ := c.defD 8 rfl
  have F_form_from : Fun K "form_from" "form_from" s_form_from (ga K "form_from") fd_form_from := fun_ofD FD_form_from
  obtain ⟨fd_form_of, FD_form_of⟩ := c.defD 9 rfl
  have F_form_of : Fun K "form_of" "form_of" s_form_of (ga K "form_of") fd_form_of := fun_ofD FD_form_of
  obtain ⟨fd_joined_two, FD_joined_two⟩ := c.defD 10 rfl
  have F_joined_two : Fun K "joined_two" "joined_two" s_joined_two (ga K "joined_two") fd_joined_two := fun_ofD FD_joined_two
  obtain ⟨fd_joined, FD_joined⟩ := c.defD 11 rfl
  have F_joined : Fun K "joined" "joined" s_joined (ga K "joined") fd_joined := fun_ofD FD_joined
  obtain ⟨fd_far_run, FD_far_run⟩ := c.defD 12 rfl
  have F_far_run : Fun K "far_run" "far_run" s_far_run (ga K "far_run") fd_far_run := fun_ofD FD_far_run
  obtain ⟨fd_reach_of, FD_reach_of⟩ := c.defD 13 rfl
  have F_reach_of : Fun K "reach_of" "reach_of" s_reach_of (ga K "reach_of") fd_reach_of := fun_ofD FD_reach_of
  obtain ⟨fd_depth_of, FD_depth_of⟩ := c.defD 14 rfl
  have F_depth_of : Fun K "depth_of" "depth_of" s_depth_of (ga K "depth_of") fd_depth_of := fun_ofD FD_depth_of
  obtain ⟨fd_net_of, FD_net_of⟩ := c.defD 15 rfl
  have F_net_of : Fun K "net_of" "net_of" s_net_of (ga K "net_of") fd_net_of := fun_ofD FD_net_of
  obtain ⟨fd_K_init, FD_K_init⟩ := c.defD 16 rfl
  have F_K_init : Fun K "__init__" "Keys.__init__" s_K_init (ma K (ga K "Keys") "__init__") fd_K_init := fun_ofD FD_K_init
  obtain ⟨fd_K_written, FD_K_written⟩ := c.defD 17 rfl
  have F_K_written : Fun K "written" "Keys.written" s_K_written (getAt K (ga K "Keys") "written") fd_K_written := fun_ofD FD_K_written
  obtain ⟨fd_K_eq, FD_K_eq⟩ := c.defD 18 rfl
  have F_K_eq : Fun K "__eq__" "Keys.__eq__" s_K_eq (ma K (ga K "Keys") "__eq__") fd_K_eq := fun_ofD FD_K_eq
  obtain ⟨fd_K_len, FD_K_len⟩ := c.defD 19 rfl
  have F_K_len : Fun K "__len__" "Keys.__len__" s_K_len (ma K (ga K "Keys") "__len__") fd_K_len := fun_ofD FD_K_len
  obtain ⟨fd_K_contains, FD_K_contains⟩ := c.defD 20 rfl
  have F_K_contains : Fun K "__contains__" "Keys.__contains__" s_K_contains (ma K (ga K "Keys") "__contains__") fd_K_contains := fun_ofD FD_K_contains
  obtain ⟨fd_K_getitem, FD_K_getitem⟩ := c.defD 21 rfl
  have F_K_getitem : Fun K "__getitem__" "Keys.__getitem__" s_K_getitem (ma K (ga K "Keys") "__getitem__") fd_K_getitem := fun_ofD FD_K_getitem
  obtain ⟨fd_K_add, FD_K_add⟩ := c.defD 22 rfl
  have F_K_add : Fun K "__add__" "Keys.__add__" s_K_add (ma K (ga K "Keys") "__add__") fd_K_add := fun_ofD FD_K_add
  obtain ⟨fd_K_mul, FD_K_mul⟩ := c.defD 23 rfl
  have F_K_mul : Fun K "__mul__" "Keys.__mul__" s_K_mul (ma K (ga K "Keys") "__mul__") fd_K_mul := fun_ofD FD_K_mul
  obtain ⟨fd_K_neg, FD_K_neg⟩ := c.defD 24 rfl
  have F_K_neg : Fun K "__neg__" "Keys.__neg__" s_K_neg (ma K (ga K "Keys") "__neg__") fd_K_neg := fun_ofD FD_K_neg
  obtain ⟨fd_K_begins, FD_K_begins⟩ := c.defD 25 rfl
  have F_K_begins : Fun K "begins" "Keys.begins" s_K_begins (ma K (ga K "Keys") "begins") fd_K_begins := fun_ofD FD_K_begins
  obtain ⟨fd__law_cell_at, FD__law_cell_at⟩ := c.defD 26 rfl
  have F__law_cell_at : Fun K "_law_cell_at" "_law_cell_at" s__law_cell_at (ga K "_law_cell_at") fd__law_cell_at := fun_ofD FD__law_cell_at
  obtain ⟨fd__law_bag, FD__law_bag⟩ := c.defD 27 rfl
  have F__law_bag : Fun K "_law_bag" "_law_bag" s__law_bag (ga K "_law_bag") fd__law_bag := fun_ofD FD__law_bag
  obtain ⟨fd__law_take, FD__law_take⟩ := c.defD 28 rfl
  have F__law_take : Fun K "_law_take" "_law_take" s__law_take (ga K "_law_take") fd__law_take := fun_ofD FD__law_take
  obtain ⟨fd__law_list, FD__law_list⟩ := c.defD 29 rfl
  have F__law_list : Fun K "_law_list" "_law_list" s__law_list (ga K "_law_list") fd__law_list := fun_ofD FD__law_list
  obtain ⟨fd__law_still, FD__law_still⟩ := c.defD 30 rfl
  have F__law_still : Fun K "_law_still" "_law_still" s__law_still (ga K "_law_still") fd__law_still := fun_ofD FD__law_still
  obtain ⟨fd__law_sums_right, FD__law_sums_right⟩ := c.defD 31 rfl
  have F__law_sums_right : Fun K "_law_sums_right" "_law_sums_right" s__law_sums_right (ga K "_law_sums_right") fd__law_sums_right := fun_ofD FD__law_sums_right
  obtain ⟨fd__law_numbers_right, FD__law_numbers_right⟩ := c.defD 32 rfl
  have F__law_numbers_right : Fun K "_law_numbers_right" "_law_numbers_right" s__law_numbers_right (ga K "_law_numbers_right") fd__law_numbers_right := fun_ofD FD__law_numbers_right
  obtain ⟨fd__law_forms_right, FD__law_forms_right⟩ := c.defD 33 rfl
  have F__law_forms_right : Fun K "_law_forms_right" "_law_forms_right" s__law_forms_right (ga K "_law_forms_right") fd__law_forms_right := fun_ofD FD__law_forms_right
  obtain ⟨fd_law, FD_law⟩ := c.defD 34 rfl
  have F_law : Fun K "law" "law" s_law (ga K "law") fd_law := fun_ofD FD_law
  have m_is_integer := glo_ok X G (fact_ c 20 (f := .glo "is_integer") rfl)
  have m_is_key := glo_ok X G (fact_ c 21 (f := .glo "is_key") rfl)
  have m_is_keys := glo_ok X G (fact_ c 22 (f := .glo "is_keys") rfl)
  have m_check_keys := glo_ok X G (fact_ c 23 (f := .glo "check_keys") rfl)
  have m_sums_of := glo_ok X G (fact_ c 24 (f := .glo "sums_of") rfl)
  have m_check_still := glo_ok X G (fact_ c 25 (f := .glo "check_still") rfl)
  have m_is_form := glo_ok X G (fact_ c 26 (f := .glo "is_form") rfl)
  have m_check_form := glo_ok X G (fact_ c 27 (f := .glo "check_form") rfl)
  have m_form_from := glo_ok X G (fact_ c 28 (f := .glo "form_from") rfl)
  have m_form_of := glo_ok X G (fact_ c 29 (f := .glo "form_of") rfl)
  have m_joined_two := glo_ok X G (fact_ c 30 (f := .glo "joined_two") rfl)
  have m_joined := glo_ok X G (fact_ c 31 (f := .glo "joined") rfl)
  have m_far_run := glo_ok X G (fact_ c 32 (f := .glo "far_run") rfl)
  have m_reach_of := glo_ok X G (fact_ c 33 (f := .glo "reach_of") rfl)
  have m_depth_of := glo_ok X G (fact_ c 34 (f := .glo "depth_of") rfl)
  have m_net_of := glo_ok X G (fact_ c 35 (f := .glo "net_of") rfl)
  have m__law_cell_at := glo_ok X G (fact_ c 36 (f := .glo "_law_cell_at") rfl)
  have m__law_bag := glo_ok X G (fact_ c 37 (f := .glo "_law_bag") rfl)
  have m__law_take := glo_ok X G (fact_ c 38 (f := .glo "_law_take") rfl)
  have m__law_list := glo_ok X G (fact_ c 39 (f := .glo "_law_list") rfl)
  have m__law_still := glo_ok X G (fact_ c 40 (f := .glo "_law_still") rfl)
  have m__law_sums_right := glo_ok X G (fact_ c 41 (f := .glo "_law_sums_right") rfl)
  have m__law_numbers_right := glo_ok X G (fact_ c 42 (f := .glo "_law_numbers_right") rfl)
  have m__law_forms_right := glo_ok X G (fact_ c 43 (f := .glo "_law_forms_right") rfl)
  have m_law := glo_ok X G (fact_ c 44 (f := .glo "law") rfl)
  have bs := FunD.bindsA (ps := ["script"]) FD_law fun _ _ _ _ _ _ us hl => match us, hl with | [_], _ => rfl
  have e := hfa.symm.trans m_law
  cases e
  refine ⟨fd_law, fun s v => bs s [v] rfl, fun base _ _ => ?_⟩
  have G_is_integer : FnOk P w K mg base CX0 1 _ fd_is_integer ["value", "low", "high"] (spD K (pd_is_integer)) := ok_is_integer F_is_integer T 
  have G_is_key : FnOk P w K mg base CX0 1 _ fd_is_key ["value"] (spD K (pd_is_key)) := ok_is_key F_is_key T gs
  have G_is_keys : FnOk P w K mg base CX0 2 _ fd_is_keys ["value"] (spD K (pd_is_keys)) := ok_is_keys F_is_keys T F_is_key m_is_key G_is_key
  have G_check_keys : FnOk P w K mg base CX0 3 _ fd_check_keys ["keys"] (spD K (pd_check_keys)) := ok_check_keys F_check_keys T F_is_keys m_is_keys G_is_keys
  have G_sums_of : FnOk P w K mg base CX0 1 _ fd_sums_of ["keys"] (spD K (pd_sums_of)) := ok_sums_of F_sums_of T 
  have G_check_still : FnOk P w K mg base CX0 4 _ fd_check_still ["keys"] (spD K (pd_check_still)) := ok_check_still F_check_still T gm_ F_check_keys m_check_keys G_check_keys
  have G_is_form : FnOk P w K mg base CX0 2 _ fd_is_form ["value"] (spD K (pd_is_form)) := ok_is_form F_is_form T gs F_is_integer m_is_integer G_is_integer
  have G_check_form : FnOk P w K mg base CX0 3 _ fd_check_form ["form"] (spD K (pd_check_form)) := ok_check_form F_check_form T F_is_form m_is_form G_is_form
  have G_form_from : FnOk P w K mg base CX0 1 _ fd_form_from ["keys"] (spD K (pd_form_from)) := ok_form_from F_form_from T gs
  have G_form_of : FnOk P w K mg base CX0 5 _ fd_form_of ["keys"] (spD K (pd_form_of)) := ok_form_of F_form_of T F_check_still m_check_still G_check_still F_form_from m_form_from G_form_from
  have G_joined_two : FnOk P w K mg base CX0 1 _ fd_joined_two ["form", "other"] (spD K (pd_joined_two)) := ok_joined_two F_joined_two T 
  have G_joined : FnR P w K mg base CX0 4 _ (spD K (starP 1 pd_joined)) := ok_joined F_joined T F_check_form m_check_form G_check_form F_joined_two m_joined_two G_joined_two
  have G_far_run : FnOk P w K mg base CX0 1 _ fd_far_run ["keys"] (spD K (pd_far_run)) := ok_far_run F_far_run T 
  have G_reach_of : FnOk P w K mg base CX0 4 _ fd_reach_of ["keys"] (spD K (pd_reach_of)) := ok_reach_of F_reach_of T F_check_keys m_check_keys G_check_keys F_far_run m_far_run G_far_run
  have G_depth_of : FnOk P w K mg base CX0 4 _ fd_depth_of ["keys"] (spD K (pd_depth_of)) := ok_depth_of F_depth_of T F_check_keys m_check_keys G_check_keys F_sums_of m_sums_of G_sums_of
  have G_net_of : FnOk P w K mg base CX0 4 _ fd_net_of ["keys"] (spD K (pd_net_of)) := ok_net_of F_net_of T F_check_keys m_check_keys G_check_keys F_sums_of m_sums_of G_sums_of
  have G_K_init : FnOk P w K mg base CX0 4 _ fd_K_init ["self", "text"] (spD K (pd_K_init (ga K "Keys"))) := ok_K_init F_K_init T kc F_check_keys m_check_keys G_check_keys
  have G_K_written : FnOk P w K mg base CX0 1 _ fd_K_written ["self"] (spD K (pd_K_written (ga K "Keys"))) := ok_K_written F_K_written T kc
  have G_K_eq : FnOk P w K mg base CX0 1 _ fd_K_eq ["self", "other"] (spD K (pd_K_eq (ga K "Keys"))) := ok_K_eq F_K_eq T kc
  have G_K_len : FnOk P w K mg base CX0 1 _ fd_K_len ["self"] (spD K (pd_K_len (ga K "Keys"))) := ok_K_len F_K_len T kc
  have G_K_contains : FnOk P w K mg base CX0 1 _ fd_K_contains ["self", "key"] (spD K (pd_K_contains (ga K "Keys"))) := ok_K_contains F_K_contains T kc
  have G_K_getitem : FnOk P w K mg base CX0 2 _ fd_K_getitem ["self", "at"] (spD K (pd_K_getitem (ga K "Keys"))) := ok_K_getitem F_K_getitem T kc F_is_integer m_is_integer G_is_integer
  have G_K_add : FnOk P w K mg base CX0 8 _ fd_K_add ["self", "other"] (spD K (pd_K_add (ga K "Keys"))) := ok_K_add F_K_add T kc F_K_init G_K_init
  have G_K_mul : FnOk P w K mg base CX0 8 _ fd_K_mul ["self", "other"] (spD K (pd_K_mul (ga K "Keys"))) := ok_K_mul F_K_mul T kc F_is_integer m_is_integer G_is_integer F_K_init G_K_init
  have G_K_neg : FnOk P w K mg base CX0 8 _ fd_K_neg ["self"] (spD K (pd_K_neg (ga K "Keys"))) := ok_K_neg F_K_neg T kc F_K_init G_K_init
  have G_K_begins : FnOk P w K mg base CX0 1 _ fd_K_begins ["self", "other"] (spD K (pd_K_begins (ga K "Keys"))) := ok_K_begins F_K_begins T kc
  have G__law_cell_at : FnOk P w K mg base CX0 1 _ fd__law_cell_at ["script", "k"] (spD K (pd__law_cell_at)) := ok__law_cell_at F__law_cell_at T 
  have G__law_bag : FnOk P w K mg base CX0 1 _ fd__law_bag ["cell", "k"] (spD K (pd__law_bag)) := ok__law_bag F__law_bag T 
  have G__law_take : FnOk P w K mg base CX0 1 _ fd__law_take ["bag", "limit"] (spD K (pd__law_take)) := ok__law_take F__law_take T 
  have G__law_list : FnOk P w K mg base CX0 2 _ fd__law_list ["bag", "top"] (spD K (pd__law_list)) := ok__law_list F__law_list T F__law_take m__law_take G__law_take
  have G__law_still : FnOk P w K mg base CX0 2 _ fd__law_still ["bag", "top"] (spD K (pd__law_still)) := ok__law_still F__law_still T F__law_take m__law_take G__law_take
  have G__law_sums_right : FnOk P w K mg base CX0 12 _ fd__law_sums_right ["bag", "a", "b", "c"] (spD K (pd__law_sums_right (ga K "Keys"))) := ok__law_sums_right F__law_sums_right T kc F__law_take m__law_take G__law_take F_K_init G_K_init F_K_add G_K_add F_K_mul G_K_mul F_K_neg G_K_neg F_K_eq G_K_eq F_K_len G_K_len F_K_begins G_K_begins F_K_written G_K_written
  have G__law_numbers_right : FnOk P w K mg base CX0 12 _ fd__law_numbers_right ["a", "b"] (spD K (pd__law_numbers_right (ga K "Keys"))) := ok__law_numbers_right F__law_numbers_right T kc F_net_of m_net_of G_net_of F_depth_of m_depth_of G_depth_of F_reach_of m_reach_of G_reach_of F_K_add G_K_add F_K_written G_K_written
  have G__law_forms_right : FnOk P w K mg base CX0 12 _ fd__law_forms_right ["bag"] (spD K (pd__law_forms_right)) := ok__law_forms_right F__law_forms_right T kc F__law_still m__law_still G__law_still F_K_init G_K_init F_K_add G_K_add F_K_mul G_K_mul F_form_of m_form_of G_form_of F_joined m_joined G_joined F_K_written G_K_written
  exact ok_law F_law T kc F__law_cell_at m__law_cell_at G__law_cell_at F__law_bag m__law_bag G__law_bag F__law_list m__law_list G__law_list F_K_init G_K_init F__law_sums_right m__law_sums_right G__law_sums_right F__law_numbers_right m__law_numbers_right G__law_numbers_right F__law_forms_right m__law_forms_right G__law_forms_right
end
end Ck
open PySem PySem.W PySem.Calls PyProof.Rows
theorem PySem.Challenge.cw_cursorkeys_k38_whole_keys_objects_holds : PySem.Challenge.rw_cursorkeys_k38_whole_keys_objects.Holds := by
  w_on; o_law
  refine HandSHeadRun.head_any (r := OpenLaw.row PySem.Challenge.rw_cursorkeys_k38_whole_keys_objects) (q := view (OpenLaw.row PySem.Challenge.rw_cursorkeys_k38_whole_keys_objects).prog [58]) (H := Ck.hk) (ob := Ck.ob) (M := 9000) (loose := Ck.looseX) (d := HandSHeadRun.topDef (OpenLaw.row PySem.Challenge.rw_cursorkeys_k38_whole_keys_objects).prog 58) (kwd := []) Ck.ob_eq
    (by kernel_rfl) (fun s => by kernel_rfl) Ck.run (by kernel_rfl) (by kernel_rfl) (by kernel_rfl) (by rfl) (by first | assumption | decide +kernel) (by decide +kernel) ⟨rfl, rfl, rfl, rfl, rfl, by decide +kernel⟩ ?hw ?hc
  case hw => w_witness2
  case hc =>
    refine L2.walk_ofE (l := PySem.Challenge.rw_cursorkeys_k38_whole_keys_objects) (n := 63) (k := 13) (x := "script") (CX := L2.CX0) rfl (by decide) (by kernel_rfl) ⟨rfl, by decide, by decide⟩ ?F (fun _ _ _ _ z => z)
    intro w mg fa h Y G hmg0
    obtain ⟨K, KX, c⟩ := Y
    have hmg : mg ("law" : PySem.Str) = some (.ref fa) := by
      have e : (HandSHeadRun.topDef (OpenLaw.row PySem.Challenge.rw_cursorkeys_k38_whole_keys_objects).prog 58).name = ("law" : PySem.Str) := by kernel_rfl
      rw [← e]
      exact hmg0
    obtain ⟨fd, hb, hF⟩ := Ck.facts (P := (PySem.Challenge.rw_cursorkeys_k38_whole_keys_objects).prog) (w := w) KX G hmg c
    exact ⟨K, fd, Dl.spD K Ck.pd_law, KX, hb, fun H a ns hl _ hS => Dl.sp_script hS ⟨ns, rfl, rfl, fun _ => rfl⟩, hF⟩

