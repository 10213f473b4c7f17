import PyProof.Rows.All
import Wide.All
import OpenK.AllK
import Wide.FinOn
import HandS.ForMost
import HandS.WordsExc
import HandS.Defaults
import HandS.TupAny
import HandS.TupMul
import HandS.Wide
import HandS.Strs
import HandS.IsInst
import HandS.GenList
import HandS.HeadHook2
import PySem.Challenge.RW_restitch_k97_whole_runs_of_the_machine
import HandS.WideBits
import KE.KStateDown
import HandS.Ends
import HandS.More
import HandS.Head0
import HandS.Head1
import HandS.Head2
import HandS.HeadEnd
import HandS.HeadHook1
set_option Elab.async false
set_option linter.all false
set_option maxRecDepth 100000
set_option maxHeartbeats 4000000
/-! The D-layer: readings over values in which tuples stand by themselves; lists and dicts stand in a small world. -/
namespace Rs
open PySem PySem.Spec PyProof.Rows L2

/-- a value: tuples (and lists that are only read) by what they hold, other objects by address -/
inductive D where
  | non | bl (b : Bool) | int (i : Int) | str (x : Str) | ref (a : Addr) | ty (n : String) | tup (ds : List D) | rol (ds : List D)
/-- a list; a dict of at most n entries by text keys -/
inductive MO where
  | lst (ds : List D) | dct (n : Nat) (f : Str → Option D)
abbrev Wd := Addr → Option MO
abbrev DEnv := List (Option D)
def updW (w : Wd) (a : Addr) (o : MO) : Wd := fun b => if b = a then some o else w b
theorem updW_same {w : Wd} {a : Addr} {o : MO} : updW w a o a = some o := by unfold updW; rw [if_pos rfl]
theorem updW_ne {w : Wd} {a b : Addr} {o : MO} (h : b ≠ a) : updW w a o b = w b := by unfold updW; rw [if_neg h]
theorem updW_updW {w : Wd} {a : Addr} {o u : MO} : updW (updW w a o) a u = updW w a u := by
  funext b; unfold updW; split <;> rfl

/-- a list that is only read: locked, or the module's -/
def RoL (K : PySem.W.Frag) (H : Hp) (a : Addr) (xs : List V) : Prop :=
  (∃ o, H a = some (.frz o (.lst xs))) ∨
    ∃ (o : Obj) (its : Array Value) (n : Nat), K.lookup a = some o ∧ o.cls = .type "list" ∧ o.dict = none ∧ o.data = .seq its n ∧ its.size ≤ sizeLine ∧ Vals xs its.toList
theorem RoL.sq {K : PySem.W.Frag} {H : Hp} {a : Addr} {xs : List V} (h : RoL K H a xs) : SqL K H a xs := by
  rcases h with h | h
  · exact .inl (.inr h)
  · exact .inr h
mutual
inductive Dt (K : PySem.W.Frag) (H : Hp) : V → D → Prop
  | non : Dt K H .non .non
  | bl (b : Bool) : Dt K H (.bl b) (.bl b)
  | int (i : Int) : Dt K H (.int i) (.int i)
  | str (x : Str) : Dt K H (.str x) (.str x)
  | ref (a : Addr) : Dt K H (.ref a) (.ref a)
  | ty (n : String) : Dt K H (.ty n) (.ty n)
  | tup {a : Addr} {xs : List V} {ds : List D} : SqT K H a xs → Dts K H xs ds → Dt K H (.ref a) (.tup ds)
  | rol {a : Addr} {xs : List V} {ds : List D} : RoL K H a xs → Dts K H xs ds → Dt K H (.ref a) (.rol ds)
inductive Dts (K : PySem.W.Frag) (H : Hp) : List V → List D → Prop
  | nil : Dts K H [] []
  | cons {v : V} {vs : List V} {d : D} {ds : List D} : Dt K H v d → Dts K H vs ds → Dts K H (v :: vs) (d :: ds)
end
/-- tuples and locked objects stay -/
structure EXT (H H' : Hp) : Prop where
  tups : ∀ b xs, H b = some (.tup xs) → H' b = some (.tup xs)
  frzs : ∀ b o u, H b = some (.frz o u) → H' b = some (.frz o u)
theorem EXT.refl (H : Hp) : EXT H H := ⟨fun _ _ h => h, fun _ _ _ h => h⟩
theorem EXT.trans {H H1 H2 : Hp} (a : EXT H H1) (b : EXT H1 H2) : EXT H H2 := ⟨fun c xs h => b.tups c xs (a.tups c xs h), fun c o u h => b.frzs c o u (a.frzs c o u h)⟩
theorem EXT.new {H : Hp} {p : Addr} {o : HO} (h : H p = none) : EXT H (upd H p o) :=
  ⟨fun b xs q => by rw [upd_ne (ne_of_none q h)]; exact q, fun b o u q => by rw [upd_ne (ne_of_none q h)]; exact q⟩
/-- a list or a dict -/
def Mu : HO → Prop
  | .lst _ => True
  | .dK _ => True
  | _ => False
theorem EXT.put {H : Hp} {p : Addr} {u o : HO} (h : H p = some u) (m : Mu u) : EXT H (upd H p o) :=
  ⟨fun b xs q => by rw [upd_ne (fun e => by subst e; rw [h] at q; cases q; exact m)]; exact q, fun b o u q => by rw [upd_ne (fun e => by subst e; rw [h] at q; cases q; exact m)]; exact q⟩
theorem EXT.sqT {K : PySem.W.Frag} {H H' : Hp} (e : EXT H H') {a : Addr} {xs : List V} (h : SqT K H a xs) : SqT K H' a xs := by
  rcases h with (h | ⟨o, h⟩) | h
  · exact .inl (.inl (e.tups _ _ h))
  · exact .inl (.inr ⟨o, e.frzs _ _ _ h⟩)
  · exact .inr h
theorem EXT.roL {K : PySem.W.Frag} {H H' : Hp} (e : EXT H H') {a : Addr} {xs : List V} (h : RoL K H a xs) : RoL K H' a xs := by
  rcases h with ⟨o, h⟩ | h
  · exact .inl ⟨o, e.frzs _ _ _ h⟩
  · exact .inr h
mutual
theorem Dt.mono {K : PySem.W.Frag} {H H' : Hp} (e : EXT H H') : ∀ (d : D) (v : V), Dt K H v d → Dt K H' v d
  | .non, _, h => by cases h; exact .non
  | .bl b, _, h => by cases h; exact .bl b
  | .int i, _, h => by cases h; exact .int i
  | .str x, _, h => by cases h; exact .str x
  | .ref a, _, h => by cases h; exact .ref a
  | .ty n, _, h => by cases h; exact .ty n
  | .tup ds, _, h => by
    cases h with
    | tup hs ha => exact .tup (e.sqT hs) (Dts.mono e ds _ ha)
  | .rol ds, _, h => by
    cases h with
    | rol hs ha => exact .rol (e.roL hs) (Dts.mono e ds _ ha)
theorem Dts.mono {K : PySem.W.Frag} {H H' : Hp} (e : EXT H H') : ∀ (ds : List D) (vs : List V), Dts K H vs ds → Dts K H' vs ds
  | [], _, h => by cases h; exact .nil
  | d :: ds, _, h => by
    cases h with
    | cons h1 h2 => exact .cons (Dt.mono e d _ h1) (Dts.mono e ds _ h2)
end
section
variable {K : PySem.W.Frag} {H H' : Hp} {v : V} {vs xs ys : List V} {d : D} {ds es : List D}
theorem Dt.ext (h : Dt K H v d) (e : EXT H H') : Dt K H' v d := Dt.mono e d v h
theorem Dts.ext (h : Dts K H vs ds) (e : EXT H H') : Dts K H' vs ds := Dts.mono e ds vs h
theorem Dts.length : ∀ {vs : List V} {ds : List D}, Dts K H vs ds → vs.length = ds.length
  | _, _, .nil => rfl
  | _, _, .cons _ t => congrArg Nat.succ (Dts.length t)
theorem Dts.get : ∀ {vs : List V} {ds : List D} {i : Nat} {d : D}, Dts K H vs ds → ds[i]? = some d → ∃ v, vs[i]? = some v ∧ Dt K H v d
  | _, _, _, _, .nil, e => by simp at e
  | _, _, 0, _, .cons r _, e => by simp at e; subst e; exact ⟨_, rfl, r⟩
  | _, _, i + 1, d, .cons _ t, e => by
    obtain ⟨u, h1, h2⟩ := Dts.get (i := i) (d := d) t (by simpa using e)
    exact ⟨u, by simpa using h1, h2⟩
theorem Dts.getV : ∀ {vs : List V} {ds : List D} {i : Nat} {v : V}, Dts K H vs ds → vs[i]? = some v → ∃ d, ds[i]? = some d ∧ Dt K H v d
  | _, _, _, _, .nil, e => by simp at e
  | _, _, 0, _, .cons r _, e => by simp at e; subst e; exact ⟨_, rfl, r⟩
  | _, _, i + 1, d, .cons _ t, e => by
    obtain ⟨u, h1, h2⟩ := Dts.getV (i := i) (v := d) t (by simpa using e)
    exact ⟨u, by simpa using h1, h2⟩
theorem Dts.append : ∀ {xs ys : List V} {ds es : List D}, Dts K H xs ds → Dts K H ys es → Dts K H (xs ++ ys) (ds ++ es)
  | _, _, _, _, .nil, s => s
  | _, _, _, _, .cons r t, s => .cons r (Dts.append t s)
theorem Dts.set (r : Dt K H v d) : ∀ {vs : List V} {ds : List D} (i : Nat), Dts K H vs ds → Dts K H (vs.set i v) (ds.set i d)
  | _, _, _, .nil => .nil
  | _, _, 0, .cons _ t => .cons r t
  | _, _, i + 1, .cons q t => .cons q (Dts.set r i t)
theorem Dts.take : ∀ {vs : List V} {ds : List D} (n : Nat), Dts K H vs ds → Dts K H (vs.take n) (ds.take n)
  | _, _, 0, _ => .nil
  | _, _, _ + 1, .nil => .nil
  | _, _, n + 1, .cons r t => .cons r (Dts.take n t)
theorem Dts.drop : ∀ {vs : List V} {ds : List D} (n : Nat), Dts K H vs ds → Dts K H (vs.drop n) (ds.drop n)
  | _, _, 0, r => r
  | _, _, _ + 1, .nil => .nil
  | _, _, n + 1, .cons _ t => Dts.drop n t
theorem Dts.rep (h : Dts K H vs ds) : ∀ k : Nat, Dts K H (List.replicate k vs).flatten (List.replicate k ds).flatten
  | 0 => .nil
  | k + 1 => by
    rw [List.replicate_succ, List.replicate_succ, List.flatten_cons, List.flatten_cons]
    exact h.append (Dts.rep h k)
theorem Dts.at (h : Dts K H vs ds) {i : Int} {d : D} (e : atI ds i = some d) : ∃ v, atI vs i = some v ∧ Dt K H v d := by
  unfold atI at e ⊢
  rw [h.length]
  cases q : ixN ds.length i with
  | none => rw [q] at e; cases e
  | some j =>
    rw [q] at e
    obtain ⟨v, h1, h2⟩ := h.get (show ds[j]? = some d from e)
    exact ⟨v, h1, h2⟩
theorem Dts.ints : ∀ (ns : List Int), Dts K H (ns.map V.int) (ns.map D.int)
  | [] => .nil
  | n :: r => .cons (.int n) (Dts.ints r)
theorem Dts.ints_eq : ∀ {vs : List V} {ns : List Int}, Dts K H vs (ns.map D.int) → vs = ns.map V.int
  | _, [], h => by cases h; rfl
  | _, n :: r, h => by
    cases h with
    | cons h1 h2 =>
      cases h1
      rw [Dts.ints_eq h2]
      rfl
theorem Dts.strs : ∀ (ns : List Str), Dts K H (ns.map V.str) (ns.map D.str)
  | [] => .nil
  | n :: r => .cons (.str n) (Dts.strs r)
theorem Dts.strs_eq : ∀ {vs : List V} {ns : List Str}, Dts K H vs (ns.map D.str) → vs = ns.map V.str
  | _, [], h => by cases h; rfl
  | _, n :: r, h => by
    cases h with
    | cons h1 h2 =>
      cases h1
      rw [Dts.strs_eq h2]
      rfl
end

/-! ### the world -/
def RelD (K : PySem.W.Frag) (H : Hp) : Option V → Option D → Prop
  | some v, some d => Dt K H v d
  | none, none => True
  | _, _ => False
def RO (K : PySem.W.Frag) (H : Hp) (a : Addr) : MO → Prop
  | .lst ds => ∃ xs, H a = some (.lst xs) ∧ Dts K H xs ds
  | .dct n f => ∃ ks : List (Key × V), H a = some (.dK ks) ∧ ks.length ≤ n ∧ ∀ k : Str, RelD K H (valV ks (Sum.inr k)) (f k)
def RW (K : PySem.W.Frag) (w : Wd) (H : Hp) : Prop := ∀ a o, w a = some o → RO K H a o
/-- slots -/
def RelE (K : PySem.W.Frag) (H : Hp) (σ : L2.St) (ρ : DEnv) : Prop := σ.length = ρ.length ∧ ∀ (i : Nat) d, ρ[i]? = some (some d) → ∃ v, σ[i]? = some (some v) ∧ Dt K H v d
section
variable {K : PySem.W.Frag} {H H' : Hp} {w : Wd} {σ : L2.St} {ρ : DEnv} {a p : Addr} {o : MO}
theorem RelD.ext {v : Option V} {d : Option D} (h : RelD K H v d) (e : EXT H H') : RelD K H' v d := by
  cases v with
  | none => cases d with
    | none => trivial
    | some d => exact False.elim h
  | some v => cases d with
    | none => exact False.elim h
    | some d => exact Dt.ext (show Dt K H v d from h) e
theorem RelE.ext (h : RelE K H σ ρ) (e : EXT H H') : RelE K H' σ ρ := ⟨h.1, fun i d q => by
  obtain ⟨v, h1, h2⟩ := h.2 i d q
  exact ⟨v, h1, h2.ext e⟩⟩
theorem RelE.set (h : RelE K H σ ρ) {v : V} {d : D} (r : Dt K H v d) (i : Nat) : RelE K H (σ.set i (some v)) (ρ.set i (some d)) := ⟨by rw [List.length_set, List.length_set]; exact h.1, fun j e q => by
  by_cases hj : i = j
  · subst hj
    by_cases hl : i < ρ.length
    · rw [List.getElem?_set_self hl] at q
      cases q
      exact ⟨v, by rw [List.getElem?_set_self (by rw [h.1]; exact hl)], r⟩
    · rw [List.getElem?_eq_none (by rw [List.length_set]; omega)] at q
      cases q
  · rw [List.getElem?_set_ne hj] at q
    obtain ⟨v', h1, h2⟩ := h.2 j e q
    exact ⟨v', by rw [List.getElem?_set_ne hj]; exact h1, h2⟩⟩
theorem RO.ext (h : RO K H a o) (e : EXT H H') (hs : H' a = H a) : RO K H' a o := by
  cases o with
  | lst ds =>
    obtain ⟨xs, h1, h2⟩ := h
    exact ⟨xs, hs.trans h1, h2.ext e⟩
  | dct n f =>
    obtain ⟨ks, h1, h2, h3⟩ := h
    exact ⟨ks, hs.trans h1, h2, fun k => (h3 k).ext e⟩
theorem RO.mu (h : RO K H a o) : ∃ u, H a = some u ∧ Mu u := by
  cases o with
  | lst ds =>
    obtain ⟨xs, h1, h2⟩ := h
    exact ⟨_, h1, trivial⟩
  | dct n f =>
    obtain ⟨ks, h1, h2, h3⟩ := h
    exact ⟨_, h1, trivial⟩
theorem RW.fresh (h : RW K w H) (hp : H p = none) : w p = none := by
  cases q : w p with
  | none => rfl
  | some o =>
    obtain ⟨u, h1, _⟩ := (h p o q).mu
    rw [hp] at h1
    cases h1
/-- an object of the world is laid anew or rewritten -/
theorem RW.upd {ho : HO} (h : RW K w H) (e : EXT H (upd H p ho)) (n : RO K (L2.upd H p ho) p o) : RW K (updW w p o) (L2.upd H p ho) := fun b u q => by
  by_cases hb : b = p
  · subst hb
    rw [updW_same] at q
    cases q
    exact n
  · rw [updW_ne hb] at q
    exact (h b u q).ext e (upd_ne hb)
/-- a new object that the world does not tell -/
theorem RW.hid {ho : HO} (h : RW K w H) (hp : H p = none) : RW K w (L2.upd H p ho) := fun b u q => by
  obtain ⟨z, h1, _⟩ := (h b u q).mu
  exact (h b u q).ext (EXT.new hp) (upd_ne (ne_of_none h1 hp))
/-- w tells less -/
def LE (w w' : Wd) : Prop := ∀ a o, w a = some o → w' a = some o
theorem LE.refl (w : Wd) : LE w w := fun _ _ h => h
theorem LE.trans {w w1 w2 : Wd} (a : LE w w1) (b : LE w1 w2) : LE w w2 := fun c o h => b c o (a c o h)
theorem LE.new {w : Wd} {p : Addr} {o : MO} (h : w p = none) : LE w (updW w p o) := fun a u q => by
  rw [updW_ne (fun e => by subst e; rw [h] at q; cases q)]
  exact q
theorem RW.le {w w' : Wd} (h : RW K w' H) (l : LE w w') : RW K w H := fun a o q => h a o (l a o q)
end

/-! ### readings -/
abbrev DE := DEnv → Wd → (D → Wd → Prop) → Prop
abbrev DT := DEnv → Wd → (Bool → Wd → Prop) → Prop
abbrev DA := DEnv → Wd → (List D → Wd → Prop) → Prop
structure DEnds where
  nx : DEnv → Wd → Prop
  rt : D → Wd → Prop
  bk : DEnv → Wd → Prop := fun _ _ => False
  ct : DEnv → Wd → Prop := fun _ _ => False
abbrev DS := DEnds → DEnv → Wd → Prop
def can (K : PySem.W.Frag) (T : DE) : TE := fun σ H Q => ∃ ρ w P, RelE K H σ ρ ∧ RW K w H ∧ T ρ w P ∧ ∀ v H' d w', EXT H H' → Dt K H' v d → RW K w' H' → P d w' → Q v H'
def canT (K : PySem.W.Frag) (T : DT) : TT := fun σ H Q => ∃ ρ w P, RelE K H σ ρ ∧ RW K w H ∧ T ρ w P ∧ ∀ b H' w', EXT H H' → RW K w' H' → P b w' → Q b H'
def canA (K : PySem.W.Frag) (T : DA) : TA := fun σ H Q => ∃ ρ w P, RelE K H σ ρ ∧ RW K w H ∧ T ρ w P ∧ ∀ vs H' ds w', EXT H H' → Dts K H' vs ds → RW K w' H' → P ds w' → Q vs H'
structure SimE (K : PySem.W.Frag) (H : Hp) (DD : DEnds) (D : Ends) : Prop where
  nx : ∀ σ' H' ρ' w', EXT H H' → RelE K H' σ' ρ' → RW K w' H' → DD.nx ρ' w' → D.nx σ' H'
  rt : ∀ v H' d w', EXT H H' → Dt K H' v d → RW K w' H' → DD.rt d w' → D.rt v H'
  bk : ∀ σ' H' ρ' w', EXT H H' → RelE K H' σ' ρ' → RW K w' H' → DD.bk ρ' w' → D.bk σ' H'
  ct : ∀ σ' H' ρ' w', EXT H H' → RelE K H' σ' ρ' → RW K w' H' → DD.ct ρ' w' → D.ct σ' H'
theorem SimE.ext {K : PySem.W.Frag} {H H' : Hp} {DD : DEnds} {D : Ends} (h : SimE K H DD D) (e : EXT H H') : SimE K H' DD D :=
  ⟨fun s H2 r w' e2 => h.nx s H2 r w' (e.trans e2), fun v H2 d w' e2 => h.rt v H2 d w' (e.trans e2), fun s H2 r w' e2 => h.bk s H2 r w' (e.trans e2), fun s H2 r w' e2 => h.ct s H2 r w' (e.trans e2)⟩
def canS (K : PySem.W.Frag) (T : DS) : TS := fun D σ H => ∃ ρ w DD, RelE K H σ ρ ∧ RW K w H ∧ T DD ρ w ∧ SimE K H DD D

section
variable {X : Cx} {e : Expr} {es : List Expr} {st : Stmt} {sts : List Stmt}
theorem pe_imp {t t' : TE} (h : PE X e t) (i : ∀ σ H Q, t' σ H Q → t σ H Q) : PE X e t' := ⟨fun pins s σ H Q I q => h.run pins s σ H Q I (i σ H Q q)⟩
theorem pt_imp {t t' : TT} (h : PT X e t) (i : ∀ σ H Q, t' σ H Q → t σ H Q) : PT X e t' := ⟨fun pins s σ H Q I q => h.run pins s σ H Q I (i σ H Q q)⟩
theorem pw_imp {t t' : TT} (h : PW X e t) (i : ∀ σ H Q, t' σ H Q → t σ H Q) : PW X e t' := ⟨fun wh pins s σ H Q I q => h.run wh pins s σ H Q I (i σ H Q q)⟩
theorem pa_imp {t t' : TA} (h : PA X es t) (i : ∀ σ H Q, t' σ H Q → t σ H Q) : PA X es t' := ⟨fun pos pins s σ H Q I q => h.run pos pins s σ H Q I (i σ H Q q)⟩
theorem ps_imp {t t' : TS} (h : PS X st t) (i : ∀ D σ H, t' D σ H → t D σ H) : PS X st t' := ⟨fun pins s σ H D I q => h.run pins s σ H D I (i D σ H q)⟩
theorem pss_imp {t t' : TS} (h : PSs X sts t) (i : ∀ D σ H, t' D σ H → t D σ H) : PSs X sts t' := ⟨fun pins s σ H D I q => h.run pins s σ H D I (i D σ H q)⟩
abbrev WE (X : Cx) (e : Expr) (T : DE) : Prop := PE X e (can X.K T)
abbrev WT (X : Cx) (e : Expr) (T : DT) : Prop := PT X e (canT X.K T)
abbrev WW (X : Cx) (e : Expr) (T : DT) : Prop := PW X e (canT X.K T)
abbrev WA (X : Cx) (es : List Expr) (T : DA) : Prop := PA X es (canA X.K T)
abbrev WS (X : Cx) (st : Stmt) (T : DS) : Prop := PS X st (canS X.K T)
abbrev WSs (X : Cx) (sts : List Stmt) (T : DS) : Prop := PSs X sts (canS X.K T)
end
end Rs
set_option maxHeartbeats 4000000
/-! The D-layer: expressions. -/
namespace Rs
open PySem PySem.Spec PyProof.Rows L2

section
variable {K : PySem.W.Frag} {H : Hp} {w : Wd} {p : Addr} {vs xs : List V} {ds : List D}
theorem RW.newL (W : RW K w H) (hq : H p = none) (r : Dts K H vs ds) : RW K (updW w p (.lst ds)) (L2.upd H p (.lst vs)) :=
  W.upd (o := .lst ds) (EXT.new hq) ⟨vs, upd_same, r.ext (EXT.new hq)⟩
theorem RW.putL {u : HO} (W : RW K w H) (h : H p = some u) (m : Mu u) (r : Dts K H vs ds) : RW K (updW w p (.lst ds)) (L2.upd H p (.lst vs)) :=
  W.upd (o := .lst ds) (EXT.put h m) ⟨vs, upd_same, r.ext (EXT.put h m)⟩
end
/-! ### names, constants -/
def dVar (i : Nat) : DE := fun ρ w P => match ρ[i]? with
  | some (some d) => P d w
  | _ => False
def dC (d : D) : DE := fun _ w P => P d w
section
variable {X : Cx} {pos : Pos}
theorem we_c {e : Expr} {v : V} {d : D} (h : PE X e (tC v)) (r : ∀ H, Dt X.K H v d) : WE X e (dC d) := by
  refine pe_imp h fun σ H Q ⟨ρ, w, P, hE, hW, hT, k⟩ => ?_
  exact k v H d w (EXT.refl H) (r H) hW hT
theorem we_var (i : Nat) {x : Str} (hN : X.N[i]? = some x := by rfl) (hv : Vis X.env.scope x := by first | exact Or.inl rfl | exact Or.inr (Or.inl rfl) | exact Or.inr (Or.inr rfl)) (hd : (x == ("__debug__" : Str)) = false := by decide)
    (hcd : (x == ("__classdict__" : Str)) = false := by decide) : WE X (.Name x pos) (dVar i) := by
  refine pe_imp (pe_var hN hv hd hcd) fun σ H Q ⟨ρ, w, P, hE, hW, hT, k⟩ => ?_
  have hT' : (match ρ[i]? with | some (some d) => P d w | _ => False) := hT
  cases q : ρ[i]? with
  | none => rw [q] at hT'; exact False.elim hT'
  | some o =>
    cases o with
    | none => rw [q] at hT'; exact False.elim hT'
    | some d =>
      rw [q] at hT'
      obtain ⟨v, h1, h2⟩ := hE.2 i d q
      exact ⟨v, h1, k v H d w (EXT.refl H) h2 hW hT'⟩
theorem we_int {i j} : WE X (.Constant (.int i) j pos) (dC (.int i)) := we_c pe_int fun _ => .int i
theorem we_str {x j} : WE X (.Constant (.str x) j pos) (dC (.str x)) := we_c pe_str fun _ => .str x
theorem we_bl {b j} : WE X (.Constant (.bool b) j pos) (dC (.bl b)) := we_c pe_bl fun _ => .bl b
theorem we_non {j} : WE X (.Constant .none j pos) (dC .non) := we_c pe_non fun _ => .non
end

/-! ### two operands -/
abbrev RR := D → D → Wd → (D → Wd → Prop) → Prop
def dBin (R : RR) (ta tb : DE) : DE := fun ρ w P => ta ρ w fun x w1 => tb ρ w1 fun y w2 => R x y w2 P
/-- what an operation asks, by D-values -/
def Sim2 (K : PySem.W.Frag) (r : R2) (R : RR) : Prop := ∀ (x y : V) (H : Hp) (dx dy : D) (w : Wd) (P : D → Wd → Prop) (Q : VK), Dt K H x dx → Dt K H y dy → RW K w H → R dx dy w P →
  (∀ v H' d w', EXT H H' → Dt K H' v d → RW K w' H' → P d w' → Q v H') → r x y H Q
section
variable {X : Cx} {pos : Pos} {a b : Expr} {ta tb : DE} {r : R2} {R : RR}
theorem sim_bin {K : PySem.W.Frag} (s : Sim2 K r R) (σ : L2.St) (H : Hp) (Q : VK) (h : can K (dBin R ta tb) σ H Q) : tOp r (can K ta) (can K tb) σ H Q := by
  obtain ⟨ρ, w, P, hE, hW, hT, k⟩ := h
  exact ⟨ρ, w, _, hE, hW, hT, fun v H1 d w1 e1 r1 W1 p1 => ⟨ρ, w1, _, hE.ext e1, W1, p1, fun u H2 d2 w2 e2 r2 W2 p2 =>
    s v u H2 d d2 w2 P Q (r1.ext e2) r2 W2 p2 fun v3 H3 d3 w3 e3 => k v3 H3 d3 w3 (e1.trans (e2.trans e3))⟩⟩
theorem we_bin {op : Operator} (ho : OpR X (binaryOp op) r) (s : Sim2 X.K r R) (ha : WE X a ta) (hb : WE X b tb) : WE X (.BinOp a op b pos) (dBin R ta tb) := pe_imp (pe_op ho ha hb) (sim_bin s)
theorem we_cmp {op : CmpOp} (ho : OpR X (compareOp op) r) (s : Sim2 X.K r R) (ha : WE X a ta) (hb : WE X b tb) (hm : behindInMarks op b = false) : WE X (.Compare a [op] [b] pos) (dBin R ta tb) := pe_imp (pe_cmpR ho ha hb hm) (sim_bin s)
theorem we_ixR (ho : IxR X r) (s : Sim2 X.K r R) (ha : WE X a ta) (hb : WE X b tb) (hs : PlainIx b := by intro _ _; rfl) : WE X (.Subscript a b pos) (dBin R ta tb) := pe_imp (pe_ix ho ha hb hs) (sim_bin s)
/-- a bool, as a test -/
def dTest (t : DE) : DT := fun ρ w P => t ρ w fun x w1 => match x with
  | .bl b => P b w1
  | _ => False
theorem wt_cmp {op : CmpOp} (ho : OpR X (compareOp op) r) (s : Sim2 X.K r R) (ha : WE X a ta) (hb : WE X b tb) (hm : behindInMarks op b = false) : WT X (.Compare a [op] [b] pos) (dTest (dBin R ta tb)) := by
  refine pt_imp (pt_cmpR ho ha hb hm) fun σ H Q ⟨ρ, w, P, hE, hW, hT, k⟩ => ?_
  refine sim_bin (R := R) (ta := ta) (tb := tb) s σ H _ ⟨ρ, w, _, hE, hW, hT, fun v H' d w' e r' W' p => ?_⟩
  cases d with
  | bl c =>
    have p' : P c w' := p
    cases r'
    exact ⟨c, rfl, k c H' w' e W' p'⟩
  | _ => exact False.elim p
/-- any expression whose value is a bool -/
theorem wt_val {t : DE} (h : WE X a t) (he : ∀ whole, isTrue a X.env whole = (do let v ← whole; standAt a.pos; holding [v] (truthy v)) := by intro _; rfl) : WT X a (dTest t) := by
  refine pt_imp (pt_val h he) fun σ H Q ⟨ρ, w, P, hE, hW, hT, k⟩ => ?_
  refine ⟨ρ, w, _, hE, hW, hT, fun v H' d w' e r' W' p => ?_⟩
  cases d with
  | bl c =>
    have p' : P c w' := p
    cases r'
    exact ⟨c, rfl, k c H' w' e W' p'⟩
  | _ => exact False.elim p
/-- an int's truth -/
def dTruI (t : DE) : DT := fun ρ w P => t ρ w fun x w1 => match x with
  | .int i => P (i != 0) w1
  | _ => False
theorem wt_truI {t : DE} (h : WE X a t) (he : ∀ whole, isTrue a X.env whole = (do let v ← whole; standAt a.pos; holding [v] (truthy v)) := by intro _; rfl) : WT X a (dTruI t) := by
  refine pt_imp (pt_truth h he) fun σ H Q ⟨ρ, w, P, hE, hW, hT, k⟩ => ?_
  refine ⟨ρ, w, _, hE, hW, hT, fun v H' d w' e r' W' p => ?_⟩
  cases d with
  | int c =>
    have p' : P (c != 0) w' := p
    cases r'
    exact ⟨(c != 0), rfl, k _ H' w' e W' p'⟩
  | _ => exact False.elim p
end

/-! ### ints -/
def rInt (C : Int → Int → Prop) (g : Int → Int → Int) : RR := fun x y w P => match x, y with
  | .int i, .int j => C i j ∧ P (.int (g i j)) w
  | _, _ => False
def rInt0 (g : Int → Int → Int) : RR := fun x y w P => match x, y with
  | .int i, .int j => P (.int (g i j)) w
  | _, _ => False
def rCmp (g : Int → Int → Bool) : RR := fun x y w P => match x, y with
  | .int i, .int j => P (.bl (g i j)) w
  | _, _ => False
section
variable {K : PySem.W.Frag}
theorem sim_int {C : Int → Int → Prop} {g : Int → Int → Int} : Sim2 K (rI C fun i j => .int (g i j)) (rInt C g) := by
  intro x y H dx dy w P Q rx ry W h k
  cases dx with
  | int i =>
    cases dy with
    | int j =>
      cases rx
      cases ry
      obtain ⟨c, p⟩ : C i j ∧ P (.int (g i j)) w := h
      exact ⟨i, j, rfl, rfl, c, k _ H _ w (EXT.refl H) (.int _) W p⟩
    | _ => exact False.elim h
  | _ => exact False.elim h
theorem sim_int0 {g : Int → Int → Int} : Sim2 K (rI0 fun i j => .int (g i j)) (rInt0 g) := by
  intro x y H dx dy w P Q rx ry W h k
  cases dx with
  | int i =>
    cases dy with
    | int j =>
      cases rx
      cases ry
      exact ⟨i, j, rfl, rfl, k _ H _ w (EXT.refl H) (.int _) W h⟩
    | _ => exact False.elim h
  | _ => exact False.elim h
theorem sim_cmp {g : Int → Int → Bool} : Sim2 K (rI0 fun i j => .bl (g i j)) (rCmp g) := by
  intro x y H dx dy w P Q rx ry W h k
  cases dx with
  | int i =>
    cases dy with
    | int j =>
      cases rx
      cases ry
      exact ⟨i, j, rfl, rfl, k _ H _ w (EXT.refl H) (.bl _) W h⟩
    | _ => exact False.elim h
  | _ => exact False.elim h
end
/-- + of ints, of tuples, of lists -/
def rAddD : RR := fun x y w P => match x, y with
  | .int i, .int j => P (.int (i + j)) w
  | .tup a, .tup b => a.length + b.length ≤ sizeLine ∧ P (.tup (a ++ b)) w
  | .ref a, .ref b => ∃ xs ys, w a = some (.lst xs) ∧ w b = some (.lst ys) ∧ xs.length + ys.length ≤ sizeLine ∧ ∀ p, w p = none → P (.ref p) (updW w p (.lst (xs ++ ys)))
  | _, _ => False
section
variable {X : Cx} {pos : Pos} {a b : Expr} {ta tb : DE}
abbrev rAddV (K : PySem.W.Frag) : R2 := fun x y H Q => (fun x y H Q => rI0 (fun i j => .int (i + j)) x y H Q ∨ rCatA K x y H Q) x y H Q ∨ rCat x y H Q
theorem sim_add {K : PySem.W.Frag} : Sim2 K (rAddV K) rAddD := by
  intro x y H dx dy w P Q rx ry W h k
  cases dx with
  | int i =>
    cases dy with
    | int j => exact .inl (.inl (sim_int0 (g := fun i j => i + j) x y H (.int i) (.int j) w P Q rx ry W h k))
    | _ => exact False.elim h
  | tup ds =>
    cases dy with
    | tup es =>
      obtain ⟨hl, p⟩ : ds.length + es.length ≤ sizeLine ∧ P (.tup (ds ++ es)) w := h
      cases rx with
      | @tup a xs _ ha rxs =>
        cases ry with
        | @tup b ys _ hb rys =>
          refine .inl (.inr ⟨a, b, xs, ys, rfl, rfl, ha, hb, by rw [rxs.length, rys.length]; exact hl, fun e => ?_, fun _ e => ?_, fun _ _ q hq => ?_⟩)
          · subst e
            cases rxs
            exact k _ H _ w (EXT.refl H) (.tup hb rys) W p
          · subst e
            cases rys
            rw [List.append_nil] at p
            exact k _ H _ w (EXT.refl H) (.tup ha rxs) W p
          · exact k _ _ _ w (EXT.new hq) (.tup (SqT.of upd_same) ((rxs.append rys).ext (EXT.new hq))) (W.hid hq) p
    | _ => exact False.elim h
  | ref a =>
    cases dy with
    | ref b =>
      obtain ⟨xs, ys, ha, hb, hl, p⟩ : ∃ xs ys, w a = some (.lst xs) ∧ w b = some (.lst ys) ∧ xs.length + ys.length ≤ sizeLine ∧ ∀ p, w p = none → P (.ref p) (updW w p (.lst (xs ++ ys))) := h
      cases rx
      cases ry
      obtain ⟨us, h1, r1⟩ := W a _ ha
      obtain ⟨vs, h2, r2⟩ := W b _ hb
      refine .inr ⟨a, b, us, vs, rfl, rfl, h1, h2, by rw [r1.length, r2.length]; exact hl, fun q hq => ?_⟩
      exact k _ _ _ _ (EXT.new hq) (.ref q) (W.newL hq (r1.append r2)) (p q (W.fresh hq))
    | _ => exact False.elim h
  | _ => exact False.elim h
abbrev dAdd := dBin rAddD
theorem we_add (ha : WE X a ta) (hb : WE X b tb) : WE X (.BinOp a .Add b pos) (dAdd ta tb) := we_bin (r := rAddV X.K) ((op_add.or op_catA).or op_cat) sim_add ha hb
abbrev dSub := dBin (rInt0 fun i j => i - j)
theorem we_sub (ha : WE X a ta) (hb : WE X b tb) : WE X (.BinOp a .Sub b pos) (dSub ta tb) := we_bin op_sub sim_int0 ha hb
abbrev dBand := dBin (rInt0 Builtin.bitAnd)
theorem we_band (ha : WE X a ta) (hb : WE X b tb) : WE X (.BinOp a .BitAnd b pos) (dBand ta tb) := we_bin op_and sim_int0 ha hb
abbrev dBor := dBin (rInt0 Builtin.bitOr)
theorem we_bor (ha : WE X a ta) (hb : WE X b tb) : WE X (.BinOp a .BitOr b pos) (dBor ta tb) := we_bin op_or sim_int0 ha hb
abbrev dBxor := dBin (rInt0 Builtin.bitXor)
theorem we_bxor (ha : WE X a ta) (hb : WE X b tb) : WE X (.BinOp a .BitXor b pos) (dBxor ta tb) := we_bin op_xor sim_int0 ha hb
abbrev dShl := dBin (rInt CPow fun i j => i * 2 ^ j.toNat)
theorem we_shl (ha : WE X a ta) (hb : WE X b tb) : WE X (.BinOp a .LShift b pos) (dShl ta tb) := we_bin op_shl sim_int ha hb
abbrev dShr := dBin (rInt (fun _ j => 0 ≤ j) fun i j => i / 2 ^ j.toNat)
theorem we_shr (ha : WE X a ta) (hb : WE X b tb) : WE X (.BinOp a .RShift b pos) (dShr ta tb) := we_bin op_shr sim_int ha hb
abbrev dFdiv := dBin (rInt CDivW fun i j => i / j)
theorem we_fdiv (ha : WE X a ta) (hb : WE X b tb) : WE X (.BinOp a .FloorDiv b pos) (dFdiv ta tb) := we_bin op_fdivW sim_int ha hb
abbrev dMod := dBin (rInt (fun _ j => 0 < j) fun i j => i % j)
theorem we_mod (ha : WE X a ta) (hb : WE X b tb) : WE X (.BinOp a .Mod b pos) (dMod ta tb) := we_bin op_mod sim_int ha hb
abbrev dPow := dBin (rInt CPow fun i j => i ^ j.toNat)
theorem we_pow (ha : WE X a ta) (hb : WE X b tb) : WE X (.BinOp a .Pow b pos) (dPow ta tb) := we_bin op_pow sim_int ha hb
/-- * of ints, of a tuple or a list and an int -/
def rMulD : RR := fun x y w P => match x, y with
  | .int i, .int j => CMul i j ∧ P (.int (i * j)) w
  | .tup a, .int k => a ≠ [] ∧ 2 ≤ k ∧ k ≤ 1000 ∧ a.length ≤ 1000 ∧ P (.tup (List.replicate k.toNat a).flatten) w
  | .ref a, .int k => ∃ xs, w a = some (.lst xs) ∧ -(2 ^ 63) ≤ k ∧ k < 2 ^ 63 ∧ xs.length * k.toNat ≤ sizeLine ∧ ∀ p, w p = none → P (.ref p) (updW w p (.lst (List.replicate k.toNat xs).flatten))
  | _, _ => False
abbrev rMulV (K : PySem.W.Frag) : R2 := fun x y H Q => (fun x y H Q => rI CMul (fun i j => .int (i * j)) x y H Q ∨ rRepT K x y H Q) x y H Q ∨ rRep x y H Q
theorem sim_mul {K : PySem.W.Frag} : Sim2 K (rMulV K) rMulD := by
  intro x y H dx dy w P Q rx ry W h k
  cases dy with
  | int j =>
    cases dx with
    | int i => exact .inl (.inl (sim_int (C := CMul) (g := fun i j => i * j) x y H (.int i) (.int j) w P Q rx ry W h k))
    | tup ds =>
      obtain ⟨h1, h2, h3, h4, p⟩ : ds ≠ [] ∧ 2 ≤ j ∧ j ≤ 1000 ∧ ds.length ≤ 1000 ∧ P (.tup (List.replicate j.toNat ds).flatten) w := h
      cases ry
      cases rx with
      | @tup a xs _ ha rxs =>
        refine .inl (.inr ⟨a, j, xs, rfl, rfl, ha, fun e => ?_, h2, h3, by rw [rxs.length]; exact h4, fun q hq => ?_⟩)
        · subst e
          cases rxs
          exact h1 rfl
        · exact k _ _ _ w (EXT.new hq) (.tup (SqT.of upd_same) ((rxs.rep _).ext (EXT.new hq))) (W.hid hq) p
    | ref a =>
      obtain ⟨xs, ha, h1, h2, h3, p⟩ : ∃ xs, w a = some (.lst xs) ∧ -(2 ^ 63) ≤ j ∧ j < 2 ^ 63 ∧ xs.length * j.toNat ≤ sizeLine ∧ ∀ p, w p = none → P (.ref p) (updW w p (.lst (List.replicate j.toNat xs).flatten)) := h
      cases ry
      cases rx
      obtain ⟨us, e1, r1⟩ := W a _ ha
      refine .inr ⟨a, j, us, rfl, rfl, e1, h1, h2, by rw [r1.length]; exact h3, fun q hq => ?_⟩
      exact k _ _ _ _ (EXT.new hq) (.ref q) (W.newL hq (r1.rep _)) (p q (W.fresh hq))
    | _ => exact False.elim h
  | _ => cases dx <;> exact False.elim h
abbrev dMul := dBin rMulD
theorem we_mul (ha : WE X a ta) (hb : WE X b tb) : WE X (.BinOp a .Mult b pos) (dMul ta tb) := we_bin (r := rMulV X.K) ((op_mul.or op_repT).or op_rep) sim_mul ha hb
/-- -x -/
def dNeg (ta : DE) : DE := fun ρ w P => ta ρ w fun x w1 => match x with
  | .int i => P (.int (-i)) w1
  | _ => False
theorem we_neg (ha : WE X a ta) : WE X (.UnaryOp .USub a pos) (dNeg ta) := by
  refine pe_imp (pe_un un_neg ha) fun σ H Q ⟨ρ, w, P, hE, hW, hT, k⟩ => ?_
  refine ⟨ρ, w, _, hE, hW, hT, fun v H' d w' e r' W' p => ?_⟩
  cases d with
  | int i =>
    have p' : P (.int (-i)) w' := p
    cases r'
    exact ⟨i, rfl, k _ H' _ w' e (.int _) W' p'⟩
  | _ => exact False.elim p

/-! ### comparisons -/
abbrev cmLt := dBin (rCmp fun i j => decide (i < j))
abbrev cmLe := dBin (rCmp fun i j => decide (i ≤ j))
abbrev cmGt := dBin (rCmp fun i j => decide (j < i))
abbrev cmGe := dBin (rCmp fun i j => decide (j ≤ i))
theorem we_lt (ha : WE X a ta) (hb : WE X b tb) : WE X (.Compare a [.Lt] [b] pos) (cmLt ta tb) := we_cmp op_lt sim_cmp ha hb (nomark _)
theorem we_le (ha : WE X a ta) (hb : WE X b tb) : WE X (.Compare a [.LtE] [b] pos) (cmLe ta tb) := we_cmp op_le sim_cmp ha hb (nomark _)
theorem we_gt (ha : WE X a ta) (hb : WE X b tb) : WE X (.Compare a [.Gt] [b] pos) (cmGt ta tb) := we_cmp op_gt sim_cmp ha hb (nomark _)
theorem we_ge (ha : WE X a ta) (hb : WE X b tb) : WE X (.Compare a [.GtE] [b] pos) (cmGe ta tb) := we_cmp op_ge sim_cmp ha hb (nomark _)
theorem wt_lt (ha : WE X a ta) (hb : WE X b tb) : WT X (.Compare a [.Lt] [b] pos) (dTest (cmLt ta tb)) := wt_cmp op_lt sim_cmp ha hb (nomark _)
theorem wt_le (ha : WE X a ta) (hb : WE X b tb) : WT X (.Compare a [.LtE] [b] pos) (dTest (cmLe ta tb)) := wt_cmp op_le sim_cmp ha hb (nomark _)
theorem wt_gt (ha : WE X a ta) (hb : WE X b tb) : WT X (.Compare a [.Gt] [b] pos) (dTest (cmGt ta tb)) := wt_cmp op_gt sim_cmp ha hb (nomark _)
theorem wt_ge (ha : WE X a ta) (hb : WE X b tb) : WT X (.Compare a [.GtE] [b] pos) (dTest (cmGe ta tb)) := wt_cmp op_ge sim_cmp ha hb (nomark _)
end
/-! ### data, for == of tuples and lists -/
mutual
inductive Dd (w : Wd) : D → PyData → Prop
  | non : Dd w .non .none
  | bl (b : Bool) : Dd w (.bl b) (.bool b)
  | int (i : Int) : Dd w (.int i) (.int i)
  | str (x : Str) : Dd w (.str x) (.str x)
  | lst {a : Addr} {ds : List D} {es : List PyData} : w a = some (.lst ds) → Dds w ds es → Dd w (.ref a) (.list es)
  | tup {ds : List D} {es : List PyData} : Dds w ds es → Dd w (.tup ds) (.tuple es)
inductive Dds (w : Wd) : List D → List PyData → Prop
  | nil : Dds w [] []
  | cons {d : D} {ds : List D} {e : PyData} {es : List PyData} : Dd w d e → Dds w ds es → Dds w (d :: ds) (e :: es)
end
mutual
theorem Dd.dp {K : PySem.W.Frag} {H : Hp} {w : Wd} (W : RW K w H) : ∀ (e : PyData) (v : V) (d : D), Dt K H v d → Dd w d e → Dp K H v e
  | .none, _, _, h, r => by cases r; cases h; exact .non
  | .bool b, _, _, h, r => by cases r; cases h; exact .bl b
  | .int i, _, _, h, r => by cases r; cases h; exact .int i
  | .str x, _, _, h, r => by cases r; cases h; exact .str x
  | .list es, _, _, h, r => by
    cases r with
    | lst ha hs =>
      cases h
      obtain ⟨xs, h1, h2⟩ := W _ _ ha
      exact .lst (SqL.of h1) (Dds.dp W es _ _ h2 hs)
  | .tuple es, _, _, h, r => by
    cases r with
    | tup hs =>
      cases h with
      | tup h1 h2 => exact .tup h1 (Dds.dp W es _ _ h2 hs)
  | .dict _, _, _, h, r => by cases r
theorem Dds.dp {K : PySem.W.Frag} {H : Hp} {w : Wd} (W : RW K w H) : ∀ (es : List PyData) (vs : List V) (ds : List D), Dts K H vs ds → Dds w ds es → DpAll K H vs es
  | [], _, _, h, r => by cases r; cases h; exact .nil
  | e :: es, _, _, h, r => by
    cases r with
    | cons r1 r2 =>
      cases h with
      | cons h1 h2 => exact .cons (Dd.dp W e _ _ h1 r1) (Dds.dp W es _ _ h2 r2)
end
theorem Dds.ints {w : Wd} : ∀ ns : List Int, Dds w (ns.map D.int) (ns.map PyData.int)
  | [] => .nil
  | n :: r => .cons (.int n) (Dds.ints r)
/-- == -/
def rEqD' : RR := fun x y w P => match x, y with
  | .int i, .int j => P (.bl (decide (i = j))) w
  | .str i, .str j => P (.bl (decide (i = j))) w
  | x, y => ∃ d e, Dd w x d ∧ Dd w y e ∧ SeqAt.shaped d = true ∧ SeqAt.shaped e = true ∧ P (.bl (PyData.eqv d e)) w
def rNeD' : RR := fun x y w P => match x, y with
  | .int i, .int j => P (.bl (!decide (i = j))) w
  | .str i, .str j => P (.bl (!decide (i = j))) w
  | x, y => ∃ d e, Dd w x d ∧ Dd w y e ∧ SeqAt.shaped d = true ∧ SeqAt.shaped e = true ∧ P (.bl (!PyData.eqv d e)) w
theorem eqD_cases {x y : D} {w : Wd} {P : D → Wd → Prop} (h : rEqD' x y w P) : (∃ i j, x = .int i ∧ y = .int j ∧ P (.bl (decide (i = j))) w) ∨ (∃ i j, x = .str i ∧ y = .str j ∧ P (.bl (decide (i = j))) w) ∨
    ∃ d e, Dd w x d ∧ Dd w y e ∧ SeqAt.shaped d = true ∧ SeqAt.shaped e = true ∧ P (.bl (PyData.eqv d e)) w := by
  cases x with
  | int i => cases y with
    | int j => exact .inl ⟨i, j, rfl, rfl, h⟩
    | _ => exact .inr (.inr h)
  | str i => cases y with
    | str j => exact .inr (.inl ⟨i, j, rfl, rfl, h⟩)
    | _ => exact .inr (.inr h)
  | _ => exact .inr (.inr h)
theorem neD_cases {x y : D} {w : Wd} {P : D → Wd → Prop} (h : rNeD' x y w P) : (∃ i j, x = .int i ∧ y = .int j ∧ P (.bl (!decide (i = j))) w) ∨ (∃ i j, x = .str i ∧ y = .str j ∧ P (.bl (!decide (i = j))) w) ∨
    ∃ d e, Dd w x d ∧ Dd w y e ∧ SeqAt.shaped d = true ∧ SeqAt.shaped e = true ∧ P (.bl (!PyData.eqv d e)) w := by
  cases x with
  | int i => cases y with
    | int j => exact .inl ⟨i, j, rfl, rfl, h⟩
    | _ => exact .inr (.inr h)
  | str i => cases y with
    | str j => exact .inr (.inl ⟨i, j, rfl, rfl, h⟩)
    | _ => exact .inr (.inr h)
  | _ => exact .inr (.inr h)
abbrev rEqV (K : PySem.W.Frag) : R2 := fun x y H Q => rEq x y H Q ∨ rEqD K x y H Q
abbrev rNeV (K : PySem.W.Frag) : R2 := fun x y H Q => rNe x y H Q ∨ rNeD K x y H Q
theorem V_int_dec (i j : Int) : decide (V.int i = V.int j) = decide (i = j) := by
  by_cases h : i = j
  · subst h; simp
  · simp [h]
theorem V_str_dec (i j : Str) : decide (V.str i = V.str j) = decide (i = j) := by
  by_cases h : i = j
  · subst h; simp
  · simp [h]
theorem sim_eq {K : PySem.W.Frag} : Sim2 K (rEqV K) rEqD' := by
  intro x y H dx dy w P Q rx ry W h k
  rcases eqD_cases h with ⟨i, j, rfl, rfl, p⟩ | ⟨i, j, rfl, rfl, p⟩ | ⟨d, e, h1, h2, h3, h4, p⟩
  · cases rx
    cases ry
    exact .inl ⟨rfl, by rw [V_int_dec]; exact k _ H _ w (EXT.refl H) (.bl _) W p⟩
  · cases rx
    cases ry
    exact .inl ⟨rfl, by rw [V_str_dec]; exact k _ H _ w (EXT.refl H) (.bl _) W p⟩
  · exact .inr ⟨d, e, Dd.dp W d _ _ rx h1, Dd.dp W e _ _ ry h2, h3, h4, k _ H _ w (EXT.refl H) (.bl _) W p⟩
theorem sim_ne {K : PySem.W.Frag} : Sim2 K (rNeV K) rNeD' := by
  intro x y H dx dy w P Q rx ry W h k
  rcases neD_cases h with ⟨i, j, rfl, rfl, p⟩ | ⟨i, j, rfl, rfl, p⟩ | ⟨d, e, h1, h2, h3, h4, p⟩
  · cases rx
    cases ry
    exact .inl ⟨rfl, by rw [V_int_dec]; exact k _ H _ w (EXT.refl H) (.bl _) W p⟩
  · cases rx
    cases ry
    exact .inl ⟨rfl, by rw [V_str_dec]; exact k _ H _ w (EXT.refl H) (.bl _) W p⟩
  · exact .inr ⟨d, e, Dd.dp W d _ _ rx h1, Dd.dp W e _ _ ry h2, h3, h4, k _ H _ w (EXT.refl H) (.bl _) W p⟩
abbrev cmEq := dBin rEqD'
abbrev cmNe := dBin rNeD'
section
variable {X : Cx} {pos : Pos} {a b : Expr} {ta tb : DE} {k : Nat}
theorem we_eq (hr : Room k X.A) (ha : WE X a ta) (hb : WE X b tb) : WE X (.Compare a [.Eq] [b] pos) (cmEq ta tb) := we_cmp (r := rEqV X.K) (op_eq.or (op_eqD hr.units)) sim_eq ha hb (nomark _)
theorem we_ne (hr : Room k X.A) (ha : WE X a ta) (hb : WE X b tb) : WE X (.Compare a [.NotEq] [b] pos) (cmNe ta tb) := we_cmp (r := rNeV X.K) (op_ne.or (op_neD hr.units)) sim_ne ha hb (nomark _)
theorem wt_eq (hr : Room k X.A) (ha : WE X a ta) (hb : WE X b tb) : WT X (.Compare a [.Eq] [b] pos) (dTest (cmEq ta tb)) := wt_cmp (r := rEqV X.K) (op_eq.or (op_eqD hr.units)) sim_eq ha hb (nomark _)
theorem wt_ne (hr : Room k X.A) (ha : WE X a ta) (hb : WE X b tb) : WT X (.Compare a [.NotEq] [b] pos) (dTest (cmNe ta tb)) := wt_cmp (r := rNeV X.K) (op_ne.or (op_neD hr.units)) sim_ne ha hb (nomark _)
/-- is None -/
def isNon : D → Bool
  | .non => true
  | _ => false
def rIsD : RR := fun x y w P => match y with
  | .non => P (.bl (isNon x)) w
  | _ => False
theorem sim_is {K : PySem.W.Frag} : Sim2 K (fun x y H Q => y = .non ∧ Q (.bl (decide (x = .non))) H) rIsD := by
  intro x y H dx dy w P Q rx ry W h k
  cases dy with
  | non =>
    have p : P (.bl (isNon dx)) w := h
    cases ry
    have e : decide (x = V.non) = isNon dx := by
      cases rx <;> first | rfl | (apply decide_eq_false; intro z; cases z)
    exact ⟨rfl, by rw [e]; exact k _ H _ w (EXT.refl H) (.bl _) W p⟩
  | _ => exact False.elim h
abbrev cmIs := dBin rIsD
theorem we_is (ha : WE X a ta) (hb : WE X b tb) : WE X (.Compare a [.Is] [b] pos) (cmIs ta tb) := we_cmp op_isN sim_is ha hb (nomark _)
theorem wt_is (ha : WE X a ta) (hb : WE X b tb) : WT X (.Compare a [.Is] [b] pos) (dTest (cmIs ta tb)) := wt_cmp op_isN sim_is ha hb (nomark _)
end
end Rs
set_option maxHeartbeats 4000000
/-! The D-layer: membership, and, or, if, subscripts, slices, displays, calls. -/
namespace Rs
open PySem PySem.Spec PyProof.Rows L2

/-! ### in: a text among texts -/
def inS (s : Str) (ds : List D) : Bool := ds.any fun d => match d with
  | .str t => t == s
  | _ => false
def allS (ds : List D) : Bool := ds.all fun d => match d with
  | .str _ => true
  | _ => false
theorem allS_strs : ∀ {ds : List D}, allS ds = true → ∃ ss : List Str, ds = ss.map D.str
  | [], _ => ⟨[], rfl⟩
  | d :: r, h => by
    unfold allS at h
    rw [List.all_cons, Bool.and_eq_true] at h
    obtain ⟨ss, e⟩ := allS_strs (ds := r) h.2
    cases d with
    | str t => exact ⟨t :: ss, by rw [e]; rfl⟩
    | _ => exact absurd (show false = true from h.1) Bool.false_ne_true
theorem inS_strs (s : Str) : ∀ ss : List Str, inS s (ss.map D.str) = inV (.str s) (ss.map V.str)
  | [] => rfl
  | t :: r => by
    have ih := inS_strs s r
    unfold inS inV at ih ⊢
    rw [List.map_cons, List.map_cons, List.any_cons, List.any_cons, ih]
    rfl
def rInD : RR := fun x y w P => match x, y with
  | .str s, .tup ds => allS ds = true ∧ P (.bl (inS s ds)) w
  | .str s, .ref a => ∃ ds, w a = some (.lst ds) ∧ allS ds = true ∧ P (.bl (inS s ds)) w
  | _, _ => False
theorem sim_in {K : PySem.W.Frag} : Sim2 K (rIn K false) rInD := by
  intro x y H dx dy w P Q rx ry W h k
  cases dx with
  | str s =>
    cases dy with
    | tup ds =>
      obtain ⟨h1, p⟩ : allS ds = true ∧ P (.bl (inS s ds)) w := h
      obtain ⟨ss, rfl⟩ := allS_strs h1
      cases rx
      cases ry with
      | @tup a xs _ ha rxs =>
        have e := rxs.strs_eq
        subst e
        refine ⟨a, _, rfl, .inr ha, rfl, flat_strs ss, ?_⟩
        rw [inS_strs] at p
        exact k _ H _ w (EXT.refl H) (.bl _) W p
    | ref a =>
      obtain ⟨ds, ha, h1, p⟩ : ∃ ds, w a = some (.lst ds) ∧ allS ds = true ∧ P (.bl (inS s ds)) w := h
      obtain ⟨ss, rfl⟩ := allS_strs h1
      cases rx
      cases ry
      obtain ⟨xs, h2, rxs⟩ := W a _ ha
      have e := rxs.strs_eq
      subst e
      refine ⟨a, _, rfl, .inl (SqL.of h2), rfl, flat_strs ss, ?_⟩
      rw [inS_strs] at p
      exact k _ H _ w (EXT.refl H) (.bl _) W p
    | _ => exact False.elim h
  | _ => exact False.elim h
abbrev cmIn := dBin rInD
section
variable {X : Cx} {pos p2 : Pos} {a b c : Expr} {es : List Expr} {ta tb tc : DE} {tes : DA} {k : Nat}
theorem we_in (ha : WE X a ta) (hb : WE X b tb) (hm : behindInMarks .In b = false := by rfl) : WE X (.Compare a [.In] [b] pos) (cmIn ta tb) := we_cmp op_in_seq sim_in ha hb hm
theorem wt_in (ha : WE X a ta) (hb : WE X b tb) (hm : behindInMarks .In b = false := by rfl) : WT X (.Compare a [.In] [b] pos) (dTest (cmIn ta tb)) := wt_cmp op_in_seq sim_in ha hb hm

/-! ### argument lists, displays -/
def dNil : DA := fun _ w P => P [] w
def dCons (ta : DE) (tr : DA) : DA := fun ρ w P => ta ρ w fun x w1 => tr ρ w1 fun xs w2 => P (x :: xs) w2
theorem wa_nil : WA X [] dNil := pa_imp pa_nil fun σ H Q ⟨ρ, w, P, hE, hW, hT, k⟩ => k [] H [] w (EXT.refl H) .nil hW hT
theorem wa_cons {tr : DA} (ha : WE X a ta) (hr : WA X es tr) (hs : starEach (a :: es) X.env = (false, eval a X.env) :: starEach es X.env := by rfl) : WA X (a :: es) (dCons ta tr) := by
  refine pa_imp (pa_cons ha hr hs) fun σ H Q ⟨ρ, w, P, hE, hW, hT, k⟩ => ?_
  exact ⟨ρ, w, _, hE, hW, hT, fun v H1 d w1 e1 r1 W1 p1 => ⟨ρ, w1, _, hE.ext e1, W1, p1, fun vs H2 ds w2 e2 r2 W2 p2 => k _ H2 _ w2 (e1.trans e2) (.cons (r1.ext e2) r2) W2 p2⟩⟩
def dTup (t : DA) : DE := fun ρ w P => t ρ w fun ds w1 => ds.length ≤ sizeLine ∧ P (.tup ds) w1
def dLst (t : DA) : DE := fun ρ w P => t ρ w fun ds w1 => ds.length ≤ sizeLine ∧ ∀ p, w1 p = none → P (.ref p) (updW w1 p (.lst ds))
theorem we_tup {x1} (h : WA X es tes) : WE X (.Tuple es x1 pos) (dTup tes) := by
  refine pe_imp (pe_tup h) fun σ H Q ⟨ρ, w, P, hE, hW, hT, k⟩ => ?_
  exact ⟨ρ, w, _, hE, hW, hT, fun vs H1 ds w1 e1 r1 W1 ⟨hl, p1⟩ => ⟨by rw [r1.length]; exact hl, fun p hp =>
    k _ _ _ w1 (e1.trans (EXT.new hp)) (.tup (SqT.of upd_same) (r1.ext (EXT.new hp))) (W1.hid hp) p1⟩⟩
theorem we_lst (h : WA X es tes) : WE X (.List es pos) (dLst tes) := by
  refine pe_imp (pe_lst h) fun σ H Q ⟨ρ, w, P, hE, hW, hT, k⟩ => ?_
  exact ⟨ρ, w, _, hE, hW, hT, fun vs H1 ds w1 e1 r1 W1 ⟨hl, p1⟩ => ⟨by rw [r1.length]; exact hl, fun p hp =>
    k _ _ _ _ (e1.trans (EXT.new hp)) (.ref p) (W1.newL hp r1) (p1 p (W1.fresh hp))⟩⟩
/-- x in [a, b, ..]: the list is forgotten -/
def dInL (ta : DE) (t : DA) : DE := fun ρ w P => ta ρ w fun x w1 => t ρ w1 fun ds w2 => match x with
  | .str s => ds.length ≤ sizeLine ∧ allS ds = true ∧ P (.bl (inS s ds)) w2
  | _ => False
theorem inl_sim {K : PySem.W.Frag} {σ : L2.St} {H : Hp} {Q : VK} (h : can K (dInL ta tes) σ H Q) : tOp (rIn K false) (can K ta) (tLst (canA K tes)) σ H Q := by
  obtain ⟨ρ, w, P, hE, hW, hT, k⟩ := h
  refine ⟨ρ, w, _, hE, hW, hT, fun v H1 d w1 e1 r1 W1 p1 => ⟨ρ, w1, _, hE.ext e1, W1, p1, fun vs H2 ds w2 e2 r2 W2 p2 => ?_⟩⟩
  cases d with
  | str s =>
    obtain ⟨hl, h1, p⟩ : ds.length ≤ sizeLine ∧ allS ds = true ∧ P (.bl (inS s ds)) w2 := p2
    obtain ⟨ss, rfl⟩ := allS_strs h1
    have e := r2.strs_eq
    subst e
    cases r1
    refine ⟨by rw [r2.length]; exact hl, fun q hq => ⟨q, _, rfl, .inl (SqL.of upd_same), rfl, flat_strs ss, ?_⟩⟩
    rw [inS_strs] at p
    exact k _ _ _ w2 (e1.trans (e2.trans (EXT.new hq))) (.bl _) (W2.hid hq) p
  | _ => exact False.elim p2
theorem we_inL (ha : WE X a ta) (h : WA X es tes) (hm : behindInMarks .In (.List es p2) = false := by rfl) : WE X (.Compare a [.In] [.List es p2] pos) (dInL ta tes) := pe_imp (pe_cmpR op_in_seq ha (pe_lst h) hm) fun _ _ _ q => inl_sim q
theorem wt_inL (ha : WE X a ta) (h : WA X es tes) (hm : behindInMarks .In (.List es p2) = false := by rfl) : WT X (.Compare a [.In] [.List es p2] pos) (dTest (dInL ta tes)) := by
  refine pt_imp (pt_cmpR op_in_seq ha (pe_lst h) hm) fun σ H Q ⟨ρ, w, P, hE, hW, hT, k⟩ => ?_
  refine inl_sim ⟨ρ, w, _, hE, hW, hT, fun v H' d w' e r' W' p => ?_⟩
  cases d with
  | bl c =>
    have p' : P c w' := p
    cases r'
    exact ⟨c, rfl, k c H' w' e W' p'⟩
  | _ => exact False.elim p

/-! ### and, or, not, if -/
def dAnd (t u : DT) : DT := fun ρ w P => t ρ w fun b w1 => (b = true → u ρ w1 P) ∧ (b = false → P false w1)
def dOr (t u : DT) : DT := fun ρ w P => t ρ w fun b w1 => (b = true → P true w1) ∧ (b = false → u ρ w1 P)
def dNot (t : DT) : DT := fun ρ w P => t ρ w fun b w1 => P (!b) w1
variable {t u : DT} {rest : List Expr}
theorem ww_and1 (h : WT X a t) : WW X (.BoolOp .And [a] pos) t := pw_and1 h
theorem ww_or1 (h : WT X a t) : WW X (.BoolOp .Or [a] pos) t := pw_or1 h
theorem ww_and (h : WT X a t) (hr : WW X (.BoolOp .And (b :: rest) pos) u) : WW X (.BoolOp .And (a :: b :: rest) pos) (dAnd t u) := by
  refine pw_imp (pw_and h hr) fun σ H Q ⟨ρ, w, P, hE, hW, hT, k⟩ => ?_
  refine ⟨ρ, w, _, hE, hW, hT, fun c H1 w1 e1 W1 p1 => ?_⟩
  cases c with
  | true => exact iteT ⟨ρ, w1, P, hE.ext e1, W1, p1.1 rfl, fun c H2 w2 e2 => k c H2 w2 (e1.trans e2)⟩
  | false => exact iteF (k false H1 w1 e1 W1 (p1.2 rfl))
theorem ww_or (h : WT X a t) (hr : WW X (.BoolOp .Or (b :: rest) pos) u) : WW X (.BoolOp .Or (a :: b :: rest) pos) (dOr t u) := by
  refine pw_imp (pw_or h hr) fun σ H Q ⟨ρ, w, P, hE, hW, hT, k⟩ => ?_
  refine ⟨ρ, w, _, hE, hW, hT, fun c H1 w1 e1 W1 p1 => ?_⟩
  cases c with
  | true => exact iteT (k true H1 w1 e1 W1 (p1.1 rfl))
  | false => exact iteF ⟨ρ, w1, P, hE.ext e1, W1, p1.2 rfl, fun c H2 w2 e2 => k c H2 w2 (e1.trans e2)⟩
theorem wt_not (h : WT X a t) : WT X (.UnaryOp .Not a pos) (dNot t) := by
  refine pt_imp (pt_not h) fun σ H Q ⟨ρ, w, P, hE, hW, hT, k⟩ => ?_
  exact ⟨ρ, w, _, hE, hW, hT, fun c H1 w1 e1 W1 p1 => k _ H1 w1 e1 W1 p1⟩
/-- as values -/
def dAndV (ta tb : DE) : DE := fun ρ w P => ta ρ w fun x w1 => match x with
  | .bl b => (b = true → tb ρ w1 P) ∧ (b = false → P (.bl false) w1)
  | _ => False
def dOrV (ta tb : DE) : DE := fun ρ w P => ta ρ w fun x w1 => match x with
  | .bl b => (b = true → P (.bl true) w1) ∧ (b = false → tb ρ w1 P)
  | _ => False
theorem we_one {op} (h : WE X a ta) : WE X (.BoolOp op [a] pos) ta := pe_one h
theorem we_and (h : WE X a ta) (hr : WE X (.BoolOp .And (b :: rest) pos) tb) : WE X (.BoolOp .And (a :: b :: rest) pos) (dAndV ta tb) := by
  refine pe_imp (pe_and h hr) fun σ H Q ⟨ρ, w, P, hE, hW, hT, k⟩ => ?_
  refine ⟨ρ, w, _, hE, hW, hT, fun v H1 d w1 e1 r1 W1 p1 => ?_⟩
  cases d with
  | bl c =>
    have p : (c = true → tb ρ w1 P) ∧ (c = false → P (.bl false) w1) := p1
    cases r1
    refine ⟨c, rfl, ?_⟩
    cases c with
    | true => exact iteT ⟨ρ, w1, P, hE.ext e1, W1, p.1 rfl, fun v H2 d w2 e2 => k v H2 d w2 (e1.trans e2)⟩
    | false => exact iteF (k _ H1 _ w1 e1 (.bl false) W1 (p.2 rfl))
  | _ => exact False.elim p1
theorem we_or (h : WE X a ta) (hr : WE X (.BoolOp .Or (b :: rest) pos) tb) : WE X (.BoolOp .Or (a :: b :: rest) pos) (dOrV ta tb) := by
  refine pe_imp (pe_or h hr) fun σ H Q ⟨ρ, w, P, hE, hW, hT, k⟩ => ?_
  refine ⟨ρ, w, _, hE, hW, hT, fun v H1 d w1 e1 r1 W1 p1 => ?_⟩
  cases d with
  | bl c =>
    have p : (c = true → P (.bl true) w1) ∧ (c = false → tb ρ w1 P) := p1
    cases r1
    refine ⟨c, rfl, ?_⟩
    cases c with
    | true => exact iteT (k _ H1 _ w1 e1 (.bl true) W1 (p.1 rfl))
    | false => exact iteF ⟨ρ, w1, P, hE.ext e1, W1, p.2 rfl, fun v H2 d w2 e2 => k v H2 d w2 (e1.trans e2)⟩
  | _ => exact False.elim p1
def dIfE (t : DT) (ta tb : DE) : DE := fun ρ w P => t ρ w fun b w1 => (b = true → ta ρ w1 P) ∧ (b = false → tb ρ w1 P)
theorem we_if (hc : WT X c t) (ha : WE X a ta) (hb : WE X b tb) : WE X (.IfExp c a b pos) (dIfE t ta tb) := by
  refine pe_imp (pe_ifExp hc ha hb) fun σ H Q ⟨ρ, w, P, hE, hW, hT, k⟩ => ?_
  refine ⟨ρ, w, _, hE, hW, hT, fun z H1 w1 e1 W1 p1 => ?_⟩
  cases z with
  | true => exact iteT ⟨ρ, w1, P, hE.ext e1, W1, p1.1 rfl, fun v H2 d w2 e2 => k v H2 d w2 (e1.trans e2)⟩
  | false => exact iteF ⟨ρ, w1, P, hE.ext e1, W1, p1.2 rfl, fun v H2 d w2 e2 => k v H2 d w2 (e1.trans e2)⟩
/-- a <= b <= c of ints, as a test -/
def dChainLe (ta tb tc : DE) : DT := fun ρ w P => ta ρ w fun x w1 => tb ρ w1 fun y w2 => match x, y with
  | .int i, .int j => (i ≤ j → tc ρ w2 fun z w3 => match z with
    | .int l => P (decide (j ≤ l)) w3
    | _ => False) ∧ (¬ i ≤ j → P false w2)
  | _, _ => False
theorem wt_chainLe (ha : WE X a ta) (hb : WE X b tb) (hc : WE X c tc) (hm : lastMarks [.LtE, .LtE] [b, c] = false := by with_unfolding_all rfl) : WT X (.Compare a [.LtE, .LtE] [b, c] pos) (dChainLe ta tb tc) := by
  refine pt_imp (pt_chain op_le op_le ha hb hc hm) fun σ H Q ⟨ρ, w, P, hE, hW, hT, k⟩ => ?_
  refine ⟨ρ, w, _, hE, hW, hT, fun v H1 d w1 e1 r1 W1 p1 => ⟨ρ, w1, _, hE.ext e1, W1, p1, fun v2 H2 d2 w2 e2 r2 W2 p2 => ?_⟩⟩
  cases d with
  | int i =>
    cases d2 with
    | int j =>
      obtain ⟨q1, q2⟩ : (i ≤ j → tc ρ w2 fun z w3 => match z with | .int l => P (decide (j ≤ l)) w3 | _ => False) ∧ (¬ i ≤ j → P false w2) := p2
      cases r1
      cases r2
      refine ⟨i, j, rfl, rfl, decide (i ≤ j), rfl, ?_⟩
      by_cases hij : i ≤ j
      · rw [decide_eq_true hij]
        refine iteT ⟨ρ, w2, _, hE.ext (e1.trans e2), W2, q1 hij, fun v3 H3 d3 w3 e3 r3 W3 p3 => ?_⟩
        cases d3 with
        | int l =>
          have p3' : P (decide (j ≤ l)) w3 := p3
          cases r3
          exact ⟨j, l, rfl, rfl, _, rfl, k _ H3 w3 (e1.trans (e2.trans e3)) W3 p3'⟩
        | _ => exact False.elim p3
      · rw [decide_eq_false hij]
        exact iteF ⟨false, rfl, k _ H2 w2 (e1.trans e2) W2 (q2 hij)⟩
    | _ => exact False.elim p2
  | _ => exact False.elim p2

/-! ### subscripts -/
def rIxD : RR := fun x y w P => match x, y with
  | .tup ds, .int i => ∃ d, atI ds i = some d ∧ P d w
  | .rol ds, .int i => ∃ d, atI ds i = some d ∧ P d w
  | .ref a, .int i => ∃ ds d, w a = some (.lst ds) ∧ atI ds i = some d ∧ P d w
  | _, _ => False
abbrev rIxV (K : PySem.W.Frag) : R2 := fun x y H Q => rIxL K x y H Q ∨ rIxT K x y H Q
theorem sim_ix {K : PySem.W.Frag} : Sim2 K (rIxV K) rIxD := by
  intro x y H dx dy w P Q rx ry W h k
  cases dy with
  | int i =>
    cases ry
    cases dx with
    | tup ds =>
      obtain ⟨d, e, p⟩ : ∃ d, atI ds i = some d ∧ P d w := h
      cases rx with
      | @tup a xs _ ha rxs =>
        obtain ⟨v, h1, h2⟩ := rxs.at e
        exact .inr ⟨a, xs, i, v, rfl, rfl, ha, h1, k _ H _ w (EXT.refl H) h2 W p⟩
    | rol ds =>
      obtain ⟨d, e, p⟩ : ∃ d, atI ds i = some d ∧ P d w := h
      cases rx with
      | @rol a xs _ ha rxs =>
        obtain ⟨v, h1, h2⟩ := rxs.at e
        exact .inl ⟨a, xs, i, v, rfl, rfl, ha.sq, h1, k _ H _ w (EXT.refl H) h2 W p⟩
    | ref a =>
      obtain ⟨ds, d, ha, e, p⟩ : ∃ ds d, w a = some (.lst ds) ∧ atI ds i = some d ∧ P d w := h
      cases rx
      obtain ⟨xs, h0, rxs⟩ := W a _ ha
      obtain ⟨v, h1, h2⟩ := rxs.at e
      exact .inl ⟨a, xs, i, v, rfl, rfl, SqL.of h0, h1, k _ H _ w (EXT.refl H) h2 W p⟩
    | _ => exact False.elim h
  | _ => cases dx <;> exact False.elim h
abbrev dIx := dBin rIxD
theorem we_ix (ha : WE X a ta) (hb : WE X b tb) (hs : PlainIx b := by intro _ _; rfl) : WE X (.Subscript a b pos) (dIx ta tb) := we_ixR (r := rIxV X.K) (ix_list.or ix_tup) sim_ix ha hb hs
/-- d["k"] -/
def dGet (ta : DE) (key : Str) : DE := fun ρ w P => ta ρ w fun x w1 => match x with
  | .ref a => ∃ n f d, w1 a = some (.dct n f) ∧ f key = some d ∧ P d w1
  | _ => False
theorem we_get {key : Str} {j : Nat} (hr : Room k X.A) (ha : WE X a ta) (hs : NoSl (.Constant (.str key) j p2) := by intro _ _; rfl) : WE X (.Subscript a (.Constant (.str key) j p2) pos) (dGet ta key) := by
  refine pe_imp (pe_dget (hu_of hr) ha pe_str hs) fun σ H Q ⟨ρ, w, P, hE, hW, hT, k⟩ => ?_
  refine ⟨ρ, w, _, hE, hW, hT, fun v H1 d w1 e1 r1 W1 p1 => ?_⟩
  cases d with
  | ref q =>
    obtain ⟨n, f, d, hw, hf, p⟩ : ∃ n f d, w1 q = some (.dct n f) ∧ f key = some d ∧ P d w1 := p1
    cases r1
    obtain ⟨ks, h1, h2, h3⟩ := W1 q _ hw
    have h4 := h3 key
    rw [hf] at h4
    cases e : valV ks (Sum.inr key) with
    | none =>
      rw [e] at h4
      exact False.elim h4
    | some v' =>
      rw [e] at h4
      have g := DGet.k (k := Sum.inr key) h1
      rw [e] at g
      exact ⟨q, v', rfl, g, k v' H1 d w1 e1 h4 W1 p⟩
  | _ => exact False.elim p1

/-! ### slices -/
abbrev DO := DEnv → Wd → (Option Int → Wd → Prop) → Prop
def canO (K : PySem.W.Frag) (T : DO) : TO := fun σ H Q => ∃ ρ w P, RelE K H σ ρ ∧ RW K w H ∧ T ρ w P ∧ ∀ o H' w', EXT H H' → RW K w' H' → P o w' → Q o H'
def oNone : DO := fun _ w P => P none w
def oSome (t : DE) : DO := fun ρ w P => t ρ w fun x w1 => match x with
  | .int i => P (some i) w1
  | _ => False
abbrev WO (X : Cx) (e : Option Expr) (T : DO) : Prop := PO X e (canO X.K T)
theorem wo_none : WO X none oNone := by
  have h := po_none (X := X)
  refine ⟨fun pins s σ H Q I ⟨ρ, w, P, hE, hW, hT, k⟩ => ?_⟩
  exact h.run pins s σ H Q I (k none H w (EXT.refl H) hW hT)
theorem wo_some (ha : WE X a ta) : WO X (some a) (oSome ta) := by
  have h := po_some ha
  refine ⟨fun pins s σ H Q I ⟨ρ, w, P, hE, hW, hT, k⟩ => ?_⟩
  refine h.run pins s σ H Q I ⟨ρ, w, _, hE, hW, hT, fun v H1 d w1 e1 r1 W1 p1 => ?_⟩
  cases d with
  | int i =>
    have p : P (some i) w1 := p1
    cases r1
    exact ⟨i, rfl, k _ H1 w1 e1 W1 p⟩
  | _ => exact False.elim p1
def cutD (xs : List D) (lo hi : Option Int) : List D := (xs.drop (HT.sIx xs.length 0 lo)).take (HT.sIx xs.length xs.length hi - HT.sIx xs.length 0 lo)
def dSl (ta : DE) (tl th : DO) : DE := fun ρ w P => ta ρ w fun x w1 => tl ρ w1 fun lo w2 => th ρ w2 fun hi w3 => match x with
  | .tup ds => P (.tup (cutD ds lo hi)) w3
  | .str s => s.length ≤ sizeLine ∧ P (.str (cutS s lo hi)) w3
  | _ => False
theorem cutD_whole (xs : List D) {lo hi : Option Int} (h : HT.sIx xs.length 0 lo = 0 ∧ HT.sIx xs.length xs.length hi = xs.length) : cutD xs lo hi = xs := by
  unfold cutD
  rw [h.1, h.2, List.drop_zero, Nat.sub_zero, List.take_length]
theorem we_sl {lo hi : Option Expr} {tl th : DO} (ha : WE X a ta) (hl : WO X lo tl) (hh : WO X hi th) : WE X (.Subscript a (.Slice lo hi none p2) pos) (dSl ta tl th) := by
  refine pe_imp (pe_slice (sl_tupA.or sl_str) ha hl hh) fun σ H Q ⟨ρ, w, P, hE, hW, hT, k⟩ => ?_
  refine ⟨ρ, w, _, hE, hW, hT, fun v H1 d w1 e1 r1 W1 p1 => ⟨ρ, w1, _, hE.ext e1, W1, p1, fun l H2 w2 e2 W2 p2 => ⟨ρ, w2, _, hE.ext (e1.trans e2), W2, p2, fun h H3 w3 e3 W3 p3 => ?_⟩⟩⟩
  cases d with
  | tup ds =>
    have p : P (.tup (cutD ds l h)) w3 := p3
    cases r1 with
    | @tup a xs _ ha rxs =>
      have ha3 := (e2.trans e3).sqT ha
      have r3 := rxs.ext (e2.trans e3)
      refine .inl ⟨a, xs, rfl, ha3, fun hw => ?_, fun hw q hq => ?_⟩
      · rw [rxs.length] at hw
        rw [cutD_whole ds hw] at p
        exact k _ H3 _ w3 (e1.trans (e2.trans e3)) (.tup ha3 r3) W3 p
      · refine k _ _ _ w3 (e1.trans (e2.trans (e3.trans (EXT.new hq)))) (.tup (SqT.of upd_same) ?_) (W3.hid hq) p
        unfold cutD cutV
        rw [rxs.length]
        exact ((r3.ext (EXT.new hq)).drop _).take _
  | str s =>
    obtain ⟨hs, p⟩ : s.length ≤ sizeLine ∧ P (.str (cutS s l h)) w3 := p3
    cases r1
    exact .inr ⟨s, rfl, hs, k _ H3 _ w3 (e1.trans (e2.trans e3)) (.str _) W3 p⟩
  | _ => exact False.elim p3
end
end Rs
set_option maxHeartbeats 4000000
/-! The D-layer: calls of built-ins, methods, defs; comprehensions. -/
namespace Rs
open PySem PySem.Spec PyProof.Rows L2

abbrev RL := List D → Wd → (D → Wd → Prop) → Prop
def SimL (K : PySem.W.Frag) (r : List V → Hp → VK → Prop) (R : RL) : Prop := ∀ (xs : List V) (H : Hp) (ds : List D) (w : Wd) (P : D → Wd → Prop) (Q : VK), Dts K H xs ds → RW K w H → R ds w P →
  (∀ v H' d w', EXT H H' → Dt K H' v d → RW K w' H' → P d w' → Q v H') → r xs H Q
def dCB (R : RL) (t : DA) : DE := fun ρ w P => t ρ w fun ds w1 => R ds w1 P
section
variable {X : Cx} {pos p apos : Pos} {a b e : Expr} {es : List Expr} {ta tb : DE} {tes : DA} {k : Nat} {x : Str} {id T : String} {r : List V → Hp → VK → Prop} {R : RL}
theorem sim_cb {K : PySem.W.Frag} (s : SimL K r R) (σ : L2.St) (H : Hp) (Q : VK) (h : can K (dCB R tes) σ H Q) : tCB r (canA K tes) σ H Q := by
  obtain ⟨ρ, w, P, hE, hW, hT, k⟩ := h
  exact ⟨ρ, w, _, hE, hW, hT, fun vs H1 ds w1 e1 r1 W1 p1 => s vs H1 ds w1 P Q r1 W1 p1 fun v H2 d w2 e2 => k v H2 d w2 (e1.trans e2)⟩
theorem we_callB (hc : CallR X (.builtin id) r) (s : SimL X.K r R) (hg : Gl X x) (hm : X.mg x = none) (hv : bootBuiltins x = some (.builtin id)) (ha : WA X (e :: es) tes) (hn : x ≠ "__name__" := by decide) (hdb : (x == ("__debug__" : Str)) = false := by decide)
    (he : starEach (e :: es) X.env = (false, eval e X.env) :: starEach es X.env := by rfl) (hpl : (backTo pos (starEach es X.env)).any (·.1) = false := by rfl) : WE X (.Call (.Name x p) (e :: es) [] pos) (dCB R tes) :=
  pe_imp (pe_callB hc hg hm hv ha hn hdb he hpl) (sim_cb s)
theorem we_callTy (hc : CallR X (.type T) r) (s : SimL X.K r R) (hg : Gl X x) (hm : X.mg x = none) (hv : bootBuiltins x = some (.type T)) (ha : WA X (e :: es) tes) (hn : x ≠ "__name__" := by decide) (hdb : (x == ("__debug__" : Str)) = false := by decide)
    (he : starEach (e :: es) X.env = (false, eval e X.env) :: starEach es X.env := by rfl) (hpl : (backTo pos (starEach es X.env)).any (·.1) = false := by rfl) : WE X (.Call (.Name x p) (e :: es) [] pos) (dCB R tes) :=
  pe_imp (pe_callTy hc hg hm hv ha hn hdb he hpl) (sim_cb s)

/-! ### len -/
def rLenD : RL := fun ds w P => match ds with
  | [.tup xs] => P (.int xs.length) w
  | [.rol xs] => P (.int xs.length) w
  | [.str s] => s.length ≤ sizeLine ∧ P (.int s.length) w
  | [.ref a] => ∃ xs, w a = some (.lst xs) ∧ P (.int xs.length) w
  | _ => False
abbrev rLenV (K : PySem.W.Frag) : List V → Hp → VK → Prop := fun xs H Q => (∃ p ys, xs = [.ref p] ∧ (SqL K H p ys ∨ SqT K H p ys) ∧ Q (.int ys.length) H) ∨ (∃ z, xs = [.str z] ∧ z.length ≤ sizeLine ∧ Q (.int z.length) H)
theorem sim_len {K : PySem.W.Frag} : SimL K (rLenV K) rLenD := by
  intro xs H ds w P Q rs W h k
  match ds, rs, h with
  | [.tup us], .cons r .nil, h =>
    cases r with
    | @tup a ys _ ha rxs => exact .inl ⟨a, ys, rfl, .inr ha, by rw [rxs.length]; exact k _ H _ w (EXT.refl H) (.int _) W h⟩
  | [.rol us], .cons r .nil, h =>
    cases r with
    | @rol a ys _ ha rxs => exact .inl ⟨a, ys, rfl, .inl ha.sq, by rw [rxs.length]; exact k _ H _ w (EXT.refl H) (.int _) W h⟩
  | [.str s], .cons r .nil, h =>
    cases r
    exact .inr ⟨s, rfl, h.1, k _ H _ w (EXT.refl H) (.int _) W h.2⟩
  | [.ref a], .cons r .nil, h =>
    cases r
    obtain ⟨us, ha, p⟩ : ∃ xs, w a = some (.lst xs) ∧ P (.int xs.length) w := h
    obtain ⟨ys, h1, rxs⟩ := W a _ ha
    exact .inl ⟨a, ys, rfl, .inl (SqL.of h1), by rw [rxs.length]; exact k _ H _ w (EXT.refl H) (.int _) W p⟩
abbrev dLen := dCB rLenD
theorem we_len (hm : X.mg "len" = none) (ha : WA X [e] tes) (hg : Gl X "len" := by rfl) (he : starEach [e] X.env = (false, eval e X.env) :: starEach [] X.env := by rfl) (hpl : (backTo pos (starEach [] X.env)).any (·.1) = false := by rfl) :
    WE X (.Call (.Name "len" p) [e] [] pos) (dLen tes) := we_callB (r := rLenV X.K) (call_len_seq.or call_len_str) sim_len hg hm PySem.boot_len ha (by decide) (by decide) he hpl

/-! ### int(i), abs(i), min(i, j) of ints -/
def rI1 (g : Int → Int) : RL := fun ds w P => match ds with
  | [.int i] => P (.int (g i)) w
  | _ => False
theorem sim_int1 {K : PySem.W.Frag} : SimL K (fun xs H Q => (∃ i, xs = [.int i] ∧ Q (.int i) H) ∨ ∃ k, xs = [.bl k] ∧ Q (.int (if k then 1 else 0)) H) (rI1 fun i => i) := by
  intro xs H ds w P Q rs W h k
  match ds, rs, h with
  | [.int i], .cons r .nil, h =>
    cases r
    exact .inl ⟨i, rfl, k _ H _ w (EXT.refl H) (.int _) W h⟩
abbrev dInt := dCB (rI1 fun i => i)
theorem we_intOf (hm : X.mg "int" = none) (ha : WA X [e] tes) (hg : Gl X "int" := by rfl) (he : starEach [e] X.env = (false, eval e X.env) :: starEach [] X.env := by rfl) (hpl : (backTo pos (starEach [] X.env)).any (·.1) = false := by rfl) :
    WE X (.Call (.Name "int" p) [e] [] pos) (dInt tes) := we_callTy call_int1 sim_int1 hg hm (by decide +kernel) ha (by decide) (by decide) he hpl
theorem sim_abs {K : PySem.W.Frag} : SimL K (fun xs H Q => ∃ i, xs = [.int i] ∧ Q (.int (if i < 0 then -i else i)) H) (rI1 fun i => if i < 0 then -i else i) := by
  intro xs H ds w P Q rs W h k
  match ds, rs, h with
  | [.int i], .cons r .nil, h =>
    cases r
    exact ⟨i, rfl, k _ H _ w (EXT.refl H) (.int _) W h⟩
abbrev dAbs := dCB (rI1 fun i => if i < 0 then -i else i)
theorem we_abs (hm : X.mg "abs" = none) (ha : WA X [e] tes) (hg : Gl X "abs" := by rfl) (he : starEach [e] X.env = (false, eval e X.env) :: starEach [] X.env := by rfl) (hpl : (backTo pos (starEach [] X.env)).any (·.1) = false := by rfl) :
    WE X (.Call (.Name "abs" p) [e] [] pos) (dAbs tes) := we_callB call_abs sim_abs hg hm (by decide +kernel) ha (by decide) (by decide) he hpl
def rMinD : RL := fun ds w P => match ds with
  | [.int i, .int j] => P (.int (if j < i then j else i)) w
  | _ => False
theorem sim_min {K : PySem.W.Frag} : SimL K (fun xs H Q => ∃ i j, xs = [.int i, .int j] ∧ Q (.int (if j < i then j else i)) H) rMinD := by
  intro xs H ds w P Q rs W h k
  match ds, rs, h with
  | [.int i, .int j], .cons r (.cons r2 .nil), h =>
    cases r
    cases r2
    exact ⟨i, j, rfl, k _ H _ w (EXT.refl H) (.int _) W h⟩
abbrev dMin := dCB rMinD
theorem we_min (hc : X.calm = true) (hm : X.mg "min" = none) (ha : WA X (e :: es) tes) (hg : Gl X "min" := by rfl) (he : starEach (e :: es) X.env = (false, eval e X.env) :: starEach es X.env := by rfl) (hpl : (backTo pos (starEach es X.env)).any (·.1) = false := by rfl) :
    WE X (.Call (.Name "min" p) (e :: es) [] pos) (dMin tes) := we_callB (call_min2 hc) sim_min hg hm (by decide +kernel) ha (by decide) (by decide) he hpl

/-! ### list(x), tuple(x) -/
def rListOf : RL := fun ds w P => match ds with
  | [.tup xs] => ∀ p, w p = none → P (.ref p) (updW w p (.lst xs))
  | [.rol xs] => ∀ p, w p = none → P (.ref p) (updW w p (.lst xs))
  | [.ref a] => ∃ xs, w a = some (.lst xs) ∧ ∀ p, w p = none → P (.ref p) (updW w p (.lst xs))
  | _ => False
theorem sim_listOf {K : PySem.W.Frag} : SimL K (fun xs H Q => ∃ p ys, xs = [.ref p] ∧ (SqL K H p ys ∨ SqT K H p ys) ∧ ∀ l, H l = none → Q (.ref l) (upd H l (.lst ys))) rListOf := by
  intro xs H ds w P Q rs W h k
  match ds, rs, h with
  | [.tup us], .cons r .nil, h =>
    cases r with
    | @tup a ys _ ha rxs => exact ⟨a, ys, rfl, .inr ha, fun q hq => k _ _ _ _ (EXT.new hq) (.ref q) (W.newL hq rxs) (h q (W.fresh hq))⟩
  | [.rol us], .cons r .nil, h =>
    cases r with
    | @rol a ys _ ha rxs => exact ⟨a, ys, rfl, .inl ha.sq, fun q hq => k _ _ _ _ (EXT.new hq) (.ref q) (W.newL hq rxs) (h q (W.fresh hq))⟩
  | [.ref a], .cons r .nil, h =>
    cases r
    obtain ⟨us, ha, p⟩ : ∃ xs, w a = some (.lst xs) ∧ ∀ p, w p = none → P (.ref p) (updW w p (.lst xs)) := h
    obtain ⟨ys, h1, rxs⟩ := W a _ ha
    exact ⟨a, ys, rfl, .inl (SqL.of h1), fun q hq => k _ _ _ _ (EXT.new hq) (.ref q) (W.newL hq rxs) (p q (W.fresh hq))⟩
abbrev dListOf := dCB rListOf
theorem we_listOf (hm : X.mg "list" = none) (ha : WA X [e] tes) (hg : Gl X "list" := by rfl) (he : starEach [e] X.env = (false, eval e X.env) :: starEach [] X.env := by rfl) (hpl : (backTo pos (starEach [] X.env)).any (·.1) = false := by rfl) :
    WE X (.Call (.Name "list" p) [e] [] pos) (dListOf tes) := we_callTy call_list_of sim_listOf hg hm (by decide +kernel) ha (by decide) (by decide) he hpl
def rTupOf : RL := fun ds w P => match ds with
  | [.tup xs] => P (.tup xs) w
  | [.rol xs] => P (.tup xs) w
  | [.ref a] => ∃ xs, w a = some (.lst xs) ∧ P (.tup xs) w
  | _ => False
theorem sim_tupOf {K : PySem.W.Frag} : SimL K (fun xs H Q => ∃ p ys, xs = [.ref p] ∧ ((SqL K H p ys ∧ ∀ l, H l = none → Q (.ref l) (upd H l (.tup ys))) ∨ (SqT K H p ys ∧ Q (.ref p) H))) rTupOf := by
  intro xs H ds w P Q rs W h k
  match ds, rs, h with
  | [.tup us], .cons r .nil, h =>
    cases r with
    | @tup a ys _ ha rxs => exact ⟨a, ys, rfl, .inr ⟨ha, k _ H _ w (EXT.refl H) (.tup ha rxs) W h⟩⟩
  | [.rol us], .cons r .nil, h =>
    cases r with
    | @rol a ys _ ha rxs => exact ⟨a, ys, rfl, .inl ⟨ha.sq, fun q hq => k _ _ _ w (EXT.new hq) (.tup (SqT.of upd_same) (rxs.ext (EXT.new hq))) (W.hid hq) h⟩⟩
  | [.ref a], .cons r .nil, h =>
    cases r
    obtain ⟨us, ha, p⟩ : ∃ xs, w a = some (.lst xs) ∧ P (.tup xs) w := h
    obtain ⟨ys, h1, rxs⟩ := W a _ ha
    exact ⟨a, ys, rfl, .inl ⟨SqL.of h1, fun q hq => k _ _ _ w (EXT.new hq) (.tup (SqT.of upd_same) (rxs.ext (EXT.new hq))) (W.hid hq) p⟩⟩
abbrev dTupOf := dCB rTupOf
theorem we_tupOf (hm : X.mg "tuple" = none) (ha : WA X [e] tes) (hg : Gl X "tuple" := by rfl) (he : starEach [e] X.env = (false, eval e X.env) :: starEach [] X.env := by rfl) (hpl : (backTo pos (starEach [] X.env)).any (·.1) = false := by rfl) :
    WE X (.Call (.Name "tuple" p) [e] [] pos) (dTupOf tes) := we_callTy call_tuple_of sim_tupOf hg hm (by decide +kernel) ha (by decide) (by decide) he hpl

/-! ### isinstance(x, tuple) -/
def isTup : D → Option Bool
  | .tup _ => some true
  | .int _ => some false
  | .str _ => some false
  | .bl _ => some false
  | .non => some false
  | _ => none
def rIsiD : RL := fun ds w P => match ds with
  | [x, .ty n] => n = "tuple" ∧ ∃ b, isTup x = some b ∧ P (.bl b) w
  | _ => False
theorem sim_isi {K : PySem.W.Frag} : SimL K (rIsi K) rIsiD := by
  intro xs H ds w P Q rs W h k
  match ds, rs, h with
  | [x, .ty n], .cons r (.cons r2 .nil), h =>
    obtain ⟨rfl, b, hb, p⟩ : n = "tuple" ∧ ∃ b, isTup x = some b ∧ P (.bl b) w := h
    cases r2
    cases x with
    | tup us =>
      cases hb
      cases r with
      | @tup a ys _ ha rxs =>
        have ty : TyX K H (.ref a) (.type "tuple") := by
          rcases ha with (h | ⟨o, h⟩) | ⟨o, its, m, h1, h2, _⟩
          · exact .base (.tup h)
          · exact .fTuple h
          · exact .kTuple h1 h2
        exact ⟨_, _, _, _, true, rfl, .ty "tuple", ty, kit_ty (by decide +kernel), k _ H _ w (EXT.refl H) (.bl _) W p⟩
    | int i =>
      cases hb
      cases r
      exact ⟨_, _, _, _, false, rfl, .ty "tuple", .base (.int i), kit_ty (by decide +kernel), k _ H _ w (EXT.refl H) (.bl _) W p⟩
    | str i =>
      cases hb
      cases r
      exact ⟨_, _, _, _, false, rfl, .ty "tuple", .base (.str i), kit_ty (by decide +kernel), k _ H _ w (EXT.refl H) (.bl _) W p⟩
    | bl i =>
      cases hb
      cases r
      exact ⟨_, _, _, _, false, rfl, .ty "tuple", .base (.bl i), kit_ty (by decide +kernel), k _ H _ w (EXT.refl H) (.bl _) W p⟩
    | non =>
      cases hb
      cases r
      exact ⟨_, _, _, _, false, rfl, .ty "tuple", .base .non, kit_ty (by decide +kernel), k _ H _ w (EXT.refl H) (.bl _) W p⟩
    | _ => cases hb
abbrev dIsi := dCB rIsiD
theorem we_isi (hm : X.mg "isinstance" = none) (ha : WA X (e :: es) tes) (hg : Gl X "isinstance" := by rfl) (he : starEach (e :: es) X.env = (false, eval e X.env) :: starEach es X.env := by rfl) (hpl : (backTo pos (starEach es X.env)).any (·.1) = false := by rfl) :
    WE X (.Call (.Name "isinstance" p) (e :: es) [] pos) (dIsi tes) := we_callB call_isi sim_isi hg hm (by decide +kernel) ha (by decide) (by decide) he hpl
/-- the class tuple as a value -/
theorem we_tyTuple (hm : X.mg "tuple" = none) (hg : Gl X "tuple" := by rfl) : WE X (.Name "tuple" pos) (dC (.ty "tuple")) :=
  we_c (pe_bltn (v := .ty "tuple") hg hm (by decide +kernel) rfl) fun _ => .ty _

/-! ### a module's constants -/
theorem we_gInt {x : Str} {i : Int} (hm : ∃ t, X.mg x = some (.int i t)) (hg : Gl X x := by rfl) (hd : (x == ("__debug__" : Str)) = false := by decide) : WE X (.Name x pos) (dC (.int i)) := by
  obtain ⟨t, h⟩ := hm
  exact we_c (pe_glob (v := .int i) hg h ⟨t, rfl⟩ hd) fun _ => .int i
theorem we_gTup {x : Str} {q : Addr} {ss : List Str} (hm : X.mg x = some (.ref q)) (ht : ∀ H, SqT X.K H q (ss.map V.str)) (hg : Gl X x := by rfl) (hd : (x == ("__debug__" : Str)) = false := by decide) : WE X (.Name x pos) (dC (.tup (ss.map D.str))) :=
  we_c (pe_glob (v := .ref q) hg hm rfl hd) fun H => .tup (ht H) (Dts.strs ss)

/-! ### methods -/
/-- xs.append(y) -/
def dApp (ta te : DE) : DE := fun ρ w P => ta ρ w fun x w1 => (∃ q xs, x = .ref q ∧ w1 q = some (.lst xs)) ∧ te ρ w1 fun y w2 => match x with
  | .ref q => ∃ xs, w2 q = some (.lst xs) ∧ xs.length < sizeLine ∧ P .non (updW w2 q (.lst (xs ++ [y])))
  | _ => False
theorem we_app (ha : WE X a ta) (he : WE X e tb) (hbase : attributeBase a "append" X.env (eval a X.env) = eval a X.env := by rfl)
    (hfew : ((backTo pos (starEach [e] X.env)).all (fun x => !x.1) && (backToKw pos (keywordEach [] X.env)).all (fun x => x.1.isSome)
      && decide ([e].length + ([] : List Keyword).length + (if ([] : List Keyword).isEmpty then 0 else 1) < 30)) = true := by rfl)
    (hline : (apos.endLine == pos.line) = true := by rfl) (hs : starEach [e] X.env = (false, eval e X.env) :: starEach [] X.env := by rfl) (hplain : (backTo pos (starEach [] X.env)).any (·.1) = false := by rfl) :
    WE X (.Call (.Attribute a "append" apos) [e] [] pos) (dApp ta tb) := by
  refine pe_imp (pe_bm PySem.F.plainAttrs_list PySem.F.slot_list_append PySem.F.type_list_append mt_append ha (pa_cons he pa_nil hs) hbase hfew hline hs hplain) fun σ H Q ⟨ρ, w, P, hE, hW, hT, k⟩ => ?_
  refine ⟨ρ, w, _, hE, hW, hT, fun v H1 d w1 e1 r1 W1 ⟨⟨q, xs, hd, hx⟩, p1⟩ => ?_⟩
  subst hd
  cases r1
  obtain ⟨us, h1, r1⟩ := W1 q _ hx
  refine ⟨.inl ⟨rfl, us, SqL.of h1⟩, ⟨ρ, w1, _, hE.ext e1, W1, p1, fun v2 H2 d2 w2 e2 r2 W2 p2 => ?_⟩⟩
  obtain ⟨ys, hy, hl, p⟩ := p2
  obtain ⟨us2, h2, r3⟩ := W2 q _ hy
  refine ⟨q, us2, v2, rfl, rfl, h2, by rw [r3.length]; exact hl, k _ _ _ _ (e1.trans (e2.trans (EXT.put h2 trivial))) .non (W2.putL h2 trivial (r3.append (.cons r2 .nil))) p⟩
/-- xs.index(s) of a list of texts -/
def dIdxL (ta te : DE) : DE := fun ρ w P => ta ρ w fun x w1 => (∃ q xs, x = .ref q ∧ w1 q = some (.lst xs)) ∧ te ρ w1 fun y w2 => ∃ (q : Addr) (ss : List Str) (s : Str) (j : Nat), x = .ref q ∧ w2 q = some (.lst (ss.map D.str)) ∧ y = .str s ∧ ss[j]? = some s ∧ (∀ m, m < j → ss[m]? ≠ some s) ∧ P (.int (j : Nat)) w2
theorem we_idxL (ha : WE X a ta) (he : WE X e tb) (hbase : attributeBase a "index" X.env (eval a X.env) = eval a X.env := by rfl)
    (hfew : ((backTo pos (starEach [e] X.env)).all (fun x => !x.1) && (backToKw pos (keywordEach [] X.env)).all (fun x => x.1.isSome)
      && decide ([e].length + ([] : List Keyword).length + (if ([] : List Keyword).isEmpty then 0 else 1) < 30)) = true := by rfl)
    (hline : (apos.endLine == pos.line) = true := by rfl) (hs : starEach [e] X.env = (false, eval e X.env) :: starEach [] X.env := by rfl) (hplain : (backTo pos (starEach [] X.env)).any (·.1) = false := by rfl) :
    WE X (.Call (.Attribute a "index" apos) [e] [] pos) (dIdxL ta tb) := by
  refine pe_imp (pe_bm PySem.F.plainAttrs_list PySem.F.slot_list_index (by first | exact PySem.F.type_list_index | decide +kernel) mt_index ha (pa_cons he pa_nil hs) hbase hfew hline hs hplain) fun σ H Q ⟨ρ, w, P, hE, hW, hT, k⟩ => ?_
  refine ⟨ρ, w, _, hE, hW, hT, fun v H1 d w1 e1 r1 W1 ⟨⟨q, xs, hd, hx⟩, p1⟩ => ?_⟩
  subst hd
  cases r1
  obtain ⟨us, h1, r1⟩ := W1 q _ hx
  refine ⟨.inl ⟨rfl, us, SqL.of h1⟩, ⟨ρ, w1, _, hE.ext e1, W1, p1, fun v2 H2 d2 w2 e2 r2 W2 p2 => ?_⟩⟩
  obtain ⟨q2, ss, s, j, eq, hy, es, hj, hno, p⟩ := p2
  cases eq
  subst es
  cases r2
  obtain ⟨us2, h2, r3⟩ := W2 q _ hy
  have e3 := r3.strs_eq
  subst e3
  refine ⟨q, _, .str s, j, .str s, rfl, rfl, SqL.of h2, rfl, flat_strs ss, by rw [List.getElem?_map, hj]; rfl, (by show (s == s) = true; exact beq_self_eq_true s), fun m z hm hz => ?_, k _ _ _ _ (e1.trans e2) (.int _) W2 p⟩
  rw [List.getElem?_map] at hz
  cases q3 : ss[m]? with
  | none => rw [q3] at hz; cases hz
  | some t =>
    rw [q3] at hz
    cases hz
    show (t == s) = false
    refine beq_eq_false_iff_ne.mpr fun z => hno m hm ?_
    rw [q3, z]
/-- T.index(s), T a module's tuple of texts -/
def dIdxT (ss : List Str) (te : DE) : DE := fun ρ w P => te ρ w fun y w2 => ∃ (s : Str) (j : Nat), y = .str s ∧ ss[j]? = some s ∧ (∀ m, m < j → ss[m]? ≠ some s) ∧ P (.int (j : Nat)) w2
theorem we_idxT {x : Str} {q : Addr} {ss : List Str} {p2 : Pos} (hm : X.mg x = some (.ref q)) (ht : ∀ H, SqT X.K H q (ss.map V.str)) (hd : ∃ o, X.K.lookup q = some o ∧ o.cls = .type "tuple" ∧ o.dict = none) (he : WE X e tb) (hg : Gl X x := by rfl) (hdb : (x == ("__debug__" : Str)) = false := by decide)
    (hbase : attributeBase (.Name x p2) "index" X.env (eval (.Name x p2) X.env) = eval (.Name x p2) X.env := by rfl)
    (hfew : ((backTo pos (starEach [e] X.env)).all (fun x => !x.1) && (backToKw pos (keywordEach [] X.env)).all (fun x => x.1.isSome)
      && decide ([e].length + ([] : List Keyword).length + (if ([] : List Keyword).isEmpty then 0 else 1) < 30)) = true := by rfl)
    (hline : (apos.endLine == pos.line) = true := by rfl) (hs : starEach [e] X.env = (false, eval e X.env) :: starEach [] X.env := by rfl) (hplain : (backTo pos (starEach [] X.env)).any (·.1) = false := by rfl) :
    WE X (.Call (.Attribute (.Name x p2) "index" apos) [e] [] pos) (dIdxT ss tb) := by
  refine pe_imp (pe_bm (PySem.F.plainAttrs_tuple) PySem.F.slot_tuple_index (by first | exact PySem.F.type_tuple_index | decide +kernel) mt_tup_index (pe_glob (v := .ref q) hg hm rfl hdb) (pa_cons he pa_nil hs) hbase hfew hline hs hplain) fun σ H Q ⟨ρ, w, P, hE, hW, hT, k⟩ => ?_
  refine ⟨.inr (.inl ⟨rfl, hd⟩), ⟨ρ, w, _, hE, hW, hT, fun v2 H2 d2 w2 e2 r2 W2 p2 => ?_⟩⟩
  obtain ⟨s, j, es, hj, hno, p⟩ := p2
  subst es
  cases r2
  exact ⟨q, ss, s, j, rfl, rfl, ht H2, hj, hno, k _ _ _ _ e2 (.int _) W2 p⟩
end
end Rs
set_option maxHeartbeats 4000000
/-! The D-layer: statements, loops, comprehensions, defs. -/
namespace Rs
open PySem PySem.Spec PyProof.Rows L2

section
variable {X : Cx} {st : Stmt} {rest : List Stmt} {t u : DS} {e c : Expr} {te : DE} {tc : DT} {pos : Pos}
/-! ### blocks -/
def dNext : DS := fun D ρ w => D.nx ρ w
def dSeq (t u : DS) : DS := fun D ρ w => t { D with nx := u D } ρ w
theorem wss_nil : WSs X [] dNext := pss_imp pss_nil fun D σ H ⟨ρ, w, DD, hE, hW, hT, k⟩ => k.nx σ H ρ w (EXT.refl H) hE hW hT
theorem seq_sim {K : PySem.W.Frag} {D : Ends} {σ : L2.St} {H : Hp} (h : canS K (dSeq t u) D σ H) : tSeq (canS K t) (canS K u) D σ H := by
  obtain ⟨ρ, w, DD, hE, hW, hT, k⟩ := h
  exact ⟨ρ, w, { DD with nx := u DD }, hE, hW, hT, ⟨fun σ' H' ρ' w' e1 E1 W1 p => ⟨ρ', w', DD, E1, W1, p, k.ext e1⟩, k.rt, k.bk, k.ct⟩⟩
theorem wss_cons (h1 : WS X st t) (h2 : WSs X rest u) : WSs X (st :: rest) (dSeq t u) := pss_imp (pss_cons h1 h2) fun _ _ _ q => seq_sim q
theorem wss_one (h1 : WS X st t) : WSs X [st] t := pss_one h1
def dBrk : DS := fun D ρ w => D.bk ρ w
theorem ws_break : WS X (.Break pos) dBrk := ps_imp ps_break fun D σ H ⟨ρ, w, DD, hE, hW, hT, k⟩ => k.bk σ H ρ w (EXT.refl H) hE hW hT
def dDrop (te : DE) : DS := fun D ρ w => te ρ w fun _ w1 => D.nx ρ w1
theorem ws_expr (he : WE X e te) (hs : swapsWith e none pos.line X.env = pure false := by rfl) : WS X (.Expr e pos) (dDrop te) := by
  refine ps_imp (ps_expr he hs) fun D σ H ⟨ρ, w, DD, hE, hW, hT, k⟩ => ?_
  exact ⟨ρ, w, _, hE, hW, hT, fun v H1 d w1 e1 r1 W1 p => k.nx σ H1 ρ w1 e1 (hE.ext e1) W1 p⟩
def dRet (te : DE) : DS := fun D ρ w => te ρ w D.rt
theorem ws_ret (he : WE X e te) : WS X (.Return (some e) pos) (dRet te) := by
  refine ps_imp (ps_ret he) fun D σ H ⟨ρ, w, DD, hE, hW, hT, k⟩ => ?_
  exact ⟨ρ, w, _, hE, hW, hT, fun v H1 d w1 e1 r1 W1 p => k.rt v H1 d w1 e1 r1 W1 p⟩
def dRetN : DS := fun D _ w => D.rt .non w
theorem ws_retN : WS X (.Return none pos) dRetN := ps_imp ps_retN fun D σ H ⟨ρ, w, DD, hE, hW, hT, k⟩ => k.rt .non H .non w (EXT.refl H) .non hW hT
def dIf (c : DT) (t u : DS) : DS := fun D ρ w => c ρ w fun b w1 => (b = true → t D ρ w1) ∧ (b = false → u D ρ w1)
theorem ws_if {a b : List Stmt} (hc : WT X c tc) (ha : WSs X a t) (hb : WSs X b u) : WS X (.If c a b pos) (dIf tc t u) := by
  refine ps_imp (ps_if hc ha hb) fun D σ H ⟨ρ, w, DD, hE, hW, hT, k⟩ => ?_
  refine ⟨ρ, w, _, hE, hW, hT, fun z H1 w1 e1 W1 p => ?_⟩
  cases z with
  | true => exact iteT ⟨ρ, w1, DD, hE.ext e1, W1, p.1 rfl, k.ext e1⟩
  | false => exact iteF ⟨ρ, w1, DD, hE.ext e1, W1, p.2 rfl, k.ext e1⟩
/-- a statement, then the rest, with a word between them -/
def dCut (t u : DS) : DS := fun D ρ w => ∃ M : DEnv → Wd → Prop, t { D with nx := M } ρ w ∧ ∀ ρ' w', M ρ' w' → u D ρ' w'
theorem wss_cut (h1 : WS X st t) (h2 : WSs X rest u) : WSs X (st :: rest) (dCut t u) := by
  refine pss_imp (pss_cons h1 h2) fun D σ H ⟨ρ, w, DD, hE, hW, ⟨M, hT, hM⟩, k⟩ => ?_
  exact ⟨ρ, w, { DD with nx := M }, hE, hW, hT, ⟨fun σ' H' ρ' w' e1 E1 W1 p => ⟨ρ', w', DD, E1, W1, hM _ _ p, k.ext e1⟩, k.rt, k.bk, k.ct⟩⟩

/-! ### names, items stored -/
def dSet (te : DE) (i : Nat) : DS := fun D ρ w => te ρ w fun d w1 => D.nx (ρ.set i (some d)) w1
theorem ws_set {i : Nat} {x : Str} {pos' : Pos} (hN : X.N.Nodup) (he : WE X e te) (hi : X.N[i]? = some x := by rfl) (hx : Loc X.env.scope x := by first | exact Or.inl rfl | exact Or.inr rfl) (hs : swapsWith e (some (.Name x pos')) pos.line X.env = pure false := by rfl)
    (hf : X.fn x = true ∨ X.env.scope.names.lookup x = some .local := by first | exact .inl rfl | exact .inr rfl) : WS X (.Assign [.Name x pos'] e pos) (dSet te i) := by
  refine ps_imp (ps_set hN hi hx he hs hf) fun D σ H ⟨ρ, w, DD, hE, hW, hT, k⟩ => ?_
  exact ⟨ρ, w, _, hE, hW, hT, fun v H1 d w1 e1 r1 W1 p => k.nx _ H1 _ w1 e1 ((hE.ext e1).set r1 i) W1 p⟩
/-- x += e of ints -/
def dAug (i : Nat) (te : DE) : DS := fun D ρ w => (∃ n, ρ[i]? = some (some (.int n))) ∧ te ρ w fun d w1 => match ρ[i]?, d with
  | some (some (.int n)), .int m => D.nx (ρ.set i (some (.int (n + m)))) w1
  | _, _ => False
theorem ws_aug {i : Nat} {x : Str} {pos' : Pos} (hN : X.N.Nodup) (he : WE X e te) (hi : X.N[i]? = some x := by rfl) (hx : Loc X.env.scope x := by first | exact Or.inl rfl | exact Or.inr rfl)
    (hf : X.fn x = true ∨ X.env.scope.names.lookup x = some .local := by first | exact .inl rfl | exact .inr rfl) : WS X (.AugAssign (.Name x pos') .Add e pos) (dAug i te) := by
  refine ps_imp (ps_aug hN hi hx he ip_add hf) fun D σ H ⟨ρ, w, DD, hE, hW, hT, k⟩ => ?_
  obtain ⟨⟨n, hn⟩, hT⟩ := hT
  obtain ⟨v, h1, h2⟩ := hE.2 i _ hn
  cases h2
  refine ⟨_, h1, ⟨ρ, w, _, hE, hW, hT, fun v H1 d w1 e1 r1 W1 p => ?_⟩⟩
  rw [hn] at p
  cases d with
  | int m =>
    cases r1
    exact ⟨n, m, rfl, rfl, k.nx _ H1 _ w1 e1 ((hE.ext e1).set (.int (n + m)) i) W1 p⟩
  | _ => exact False.elim p
/-- a, b, .. = a tuple -/
def gNames : List Nat → TGs
  | [] => gNil
  | i :: r => gCons (gName i) (gNames r)
def setAll (ρ : DEnv) : List Nat → List D → DEnv
  | i :: r, d :: ds => setAll (ρ.set i (some d)) r ds
  | _, _ => ρ
theorem gNames_sim {K : PySem.W.Frag} : ∀ (is : List Nat) {xs : List V} {ds : List D} {σ : L2.St} {ρ : DEnv} {H : Hp} {Q : L2.St → Hp → Prop}, is.length = ds.length → Dts K H xs ds → RelE K H σ ρ → (∀ σ', RelE K H σ' (setAll ρ is ds) → Q σ' H) → gNames is xs σ H Q
  | [], _, [], _, _, _, _, _, h, E, k => by
    cases h
    exact ⟨rfl, k _ E⟩
  | i :: r, _, d :: ds, _, _, _, _, hl, h, E, k => by
    cases h with
    | cons h1 h2 => exact ⟨_, _, rfl, gNames_sim r (Nat.succ.inj hl) h2 (E.set h1 i) k⟩
  | [], _, _ :: _, _, _, _, _, hl, _, _, _ => by cases hl
  | _ :: _, _, [], _, _, _, _, hl, _, _, _ => by cases hl
def dUnp (te : DE) (is : List Nat) : DS := fun D ρ w => te ρ w fun d w1 => match d with
  | .tup ds => ds.length = is.length ∧ D.nx (setAll ρ is ds) w1
  | _ => False
theorem ws_unp {es : List Expr} {is : List Nat} {k2 : Nat} {p2 : Pos} (hc : X.calm = true) (he : WE X e te) (hg : PGs X es (gNames is)) (hn : (assignEach es X.env).length = is.length := by rfl) (hst : (assignEach es X.env).findIdx? (·.1) = none := by rfl)
    (hs : swapsWithSole [.Tuple es k2 p2] e pos.line X.env = pure false := by rfl) (hw : swappedStores [.Tuple es k2 p2] e X.env = pure none := by rfl)
    (h1 : (assignEach [.Tuple es k2 p2] X.env).map (·.2) = [assign (.Tuple es k2 p2) X.env] := by rfl) : WS X (.Assign [.Tuple es k2 p2] e pos) (dUnp te is) := by
  refine ps_imp (ps_asg he (pg_tup hc hg hn hst) hs hw h1) fun D σ H ⟨ρ, w, DD, hE, hW, hT, k⟩ => ?_
  refine ⟨ρ, w, _, hE, hW, hT, fun v H1 d w1 e1 r1 W1 p => ?_⟩
  cases d with
  | tup ds =>
    obtain ⟨hl, p⟩ : ds.length = is.length ∧ DD.nx (setAll ρ is ds) w1 := p
    cases r1 with
    | @tup a xs _ ha rxs =>
      exact ⟨a, xs, rfl, ha, rxs.length.trans hl, gNames_sim is hl.symm rxs (hE.ext e1) fun σ' E' => k.nx σ' H1 _ w1 e1 E' W1 p⟩
  | _ => exact False.elim p
/-- o[i] = v of a list -/
def dSetIx (te to ti : DE) : DS := fun D ρ w => te ρ w fun v w1 => to ρ w1 fun x w2 => ti ρ w2 fun y w3 => match x, y with
  | .ref a, .int i => ∃ ds j, w3 a = some (.lst ds) ∧ ixN ds.length i = some j ∧ D.nx ρ (updW w3 a (.lst (ds.set j v)))
  | _, _ => False
theorem ws_setIx {o i : Expr} {to ti : DE} {p2 : Pos} (he : WE X e te) (ho : WE X o to) (hi : WE X i ti)
    (ha : ∀ v, assign (.Subscript o i p2) X.env v = (do
      let ov ← holding [v] (eval o X.env)
      let iv ← holding [v, ov] (eval i X.env)
      standAt p2
      holding [v, ov, iv] (setItem ov iv v)
      release [v, ov, iv] []) := by intro _; rfl) (hs : swapsWithSole [.Subscript o i p2] e pos.line X.env = pure false := by rfl) (hw : swappedStores [.Subscript o i p2] e X.env = pure none := by rfl)
    (h1 : (assignEach [.Subscript o i p2] X.env).map (·.2) = [assign (.Subscript o i p2) X.env] := by rfl) : WS X (.Assign [.Subscript o i p2] e pos) (dSetIx te to ti) := by
  refine ps_imp (ps_asg he (pg_sub ho hi set_list ha) hs hw h1) fun D σ H ⟨ρ, w, DD, hE, hW, hT, k⟩ => ?_
  refine ⟨ρ, w, _, hE, hW, hT, fun v H1 d w1 e1 r1 W1 p1 => ⟨ρ, w1, _, hE.ext e1, W1, p1, fun v2 H2 d2 w2 e2 r2 W2 p2 => ⟨ρ, w2, _, hE.ext (e1.trans e2), W2, p2, fun v3 H3 d3 w3 e3 r3 W3 p3 => ?_⟩⟩⟩
  cases d2 with
  | ref a =>
    cases d3 with
    | int i =>
      obtain ⟨ds, j, ha, hj, p⟩ : ∃ ds j, w3 a = some (.lst ds) ∧ ixN ds.length i = some j ∧ DD.nx ρ (updW w3 a (.lst (ds.set j d))) := p3
      cases r2
      cases r3
      obtain ⟨xs, h1, rxs⟩ := W3 a _ ha
      have ee := EXT.put (o := .lst (xs.set j v)) h1 trivial
      refine ⟨a, xs, i, j, rfl, rfl, h1, by rw [rxs.length]; exact hj, k.nx σ _ ρ _ (e1.trans (e2.trans (e3.trans ee))) (hE.ext (e1.trans (e2.trans (e3.trans ee)))) (W3.putL h1 trivial (Dts.set (r1.ext (e2.trans e3)) j rxs)) p⟩
    | _ => exact False.elim p3
  | _ => exact False.elim p3
/-- d["k"] = v -/
def putF (f : Str → Option D) (k : Str) (d : D) : Str → Option D := fun j => if j = k then some d else f j
def dPut (te to : DE) (key : Str) : DS := fun D ρ w => te ρ w fun v w1 => to ρ w1 fun x w2 => match x with
  | .ref a => ∃ n f m, w2 a = some (.dct n f) ∧ n < 100000 ∧ (m = n ∧ (f key).isSome = true ∨ m = n + 1) ∧ D.nx ρ (updW w2 a (.dct m (putF f key v)))
  | _ => False
theorem len_putK_same (kvs : List (Key × V)) (k : Key) (v : V) (h : (valV kvs k).isSome = true) : (putK kvs k v).length = kvs.length := by
  have e : (kvs.any fun kv => decide (kv.1 = k)) = true := by rw [valV_any]; exact h
  unfold putK
  rw [if_pos e, List.length_map]
theorem ws_put {o : Expr} {to : DE} {key : Str} {j k : Nat} {p2 p3 : Pos} (hr : Room k X.A) (he : WE X e te) (ho : WE X o to) (hs : swapsWith e (some (.Subscript o (.Constant (.str key) j p3) p2)) pos.line X.env = pure false := by rfl) :
    WS X (.Assign [.Subscript o (.Constant (.str key) j p3) p2] e pos) (dPut te to key) := by
  refine ps_imp (ps_dput (hu_of hr) ho pe_str he hs) fun D σ H ⟨ρ, w, DD, hE, hW, hT, k⟩ => ?_
  refine ⟨ρ, w, _, hE, hW, hT, fun v H1 d w1 e1 r1 W1 p1 => ⟨ρ, w1, _, hE.ext e1, W1, p1, fun v2 H2 d2 w2 e2 r2 W2 p2 => ?_⟩⟩
  cases d2 with
  | ref a =>
    obtain ⟨n, f, m, ha, hn, hm, p⟩ : ∃ n f m, w2 a = some (.dct n f) ∧ n < 100000 ∧ (m = n ∧ (f key).isSome = true ∨ m = n + 1) ∧ DD.nx ρ (updW w2 a (.dct m (putF f key d))) := p2
    cases r2
    obtain ⟨ks, h1, h2, h3⟩ := W2 a _ ha
    have ee := EXT.put (o := .dK (putK ks (Sum.inr key) v)) h1 trivial
    have hl : ks.length < sizeLine := Nat.lt_of_le_of_lt h2 (Nat.lt_of_lt_of_le hn (by decide))
    refine ⟨a, _, rfl, DPut.k (k := Sum.inr key) h1 hl, k.nx σ _ ρ _ (e1.trans (e2.trans ee)) (hE.ext (e1.trans (e2.trans ee))) (W2.upd ee (o := .dct m (putF f key d)) ⟨_, upd_same, ?_, fun z => ?_⟩) p⟩
    · rcases hm with ⟨rfl, hf⟩ | rfl
      · have h4 := h3 key
        have hv : (valV ks (Sum.inr key)).isSome = true := by
          cases q : valV ks (Sum.inr key) with
          | some _ => rfl
          | none =>
            rw [q] at h4
            cases q2 : f key with
            | none => rw [q2] at hf; cases hf
            | some _ => rw [q2] at h4; exact False.elim h4
        rw [len_putK_same ks _ v hv]
        exact h2
      · exact Nat.le_trans (length_putK ks _ v) (Nat.succ_le_succ h2)
    · rw [valV_put]
      unfold putF
      by_cases hz : z = key
      · subst hz
        rw [if_pos rfl, if_pos rfl]
        exact r1.ext (e2.trans ee)
      · rw [if_neg (fun q => hz (Sum.inr.inj q)), if_neg hz]
        exact (h3 z).ext ee
  | _ => exact False.elim p2

/-! ### a dict's display -/
/-- the values, from the left -/
def dVals : List DE → DEnv → Wd → (List D → Wd → Prop) → Prop
  | [], _, w, P => P [] w
  | t :: r, ρ, w, P => t ρ w fun d w1 => dVals r ρ w1 fun ds w2 => P (d :: ds) w2
def mkF : List Str → List D → Str → Option D
  | k :: ks, d :: ds => fun j => if j = k then some d else mkF ks ds j
  | _, _ => fun _ => none
def dDisp (keys : List Str) (ts : List DE) : DE := fun ρ w P => ∀ p, w p = none → dVals ts ρ (updW w p (.dct 0 fun _ => none)) fun ds w' => (∃ f, w' p = some (.dct 0 f)) ∧ ds.length = keys.length ∧ keys.length ≤ 15 ∧ keys.Nodup ∧ P (.ref p) (updW w' p (.dct keys.length (mkF keys ds)))
def pairT (K : PySem.W.Frag) (keys : List Str) (ts : List DE) : List (TE × TE) := (keys.zip ts).map fun q => (tC (.str q.1), can K q.2)
theorem wp_nil : PPs X pos [] [] (pairT X.K [] []) := pps_nil
theorem wp_cons {kx : Str} {j : Nat} {p2 : Pos} {v : Expr} {ks : List (Option Expr)} {vs : List Expr} {keys : List Str} {ts : List DE} (hv : WE X v te) (hr : PPs X pos ks vs (pairT X.K keys ts)) : PPs X pos (some (.Constant (.str kx) j p2) :: ks) (v :: vs) (pairT X.K (kx :: keys) (te :: ts)) := pps_cons pe_str hv hr
theorem vals_sim {K : PySem.W.Frag} {σ : L2.St} {ρ : DEnv} : ∀ (keys : List Str) (ts : List DE) {H : Hp} {w : Wd} {P : List D → Wd → Prop} {Q : List (V × V) → Hp → Prop}, keys.length = ts.length → RelE K H σ ρ → RW K w H → dVals ts ρ w P →
    (∀ vs H' ds w', EXT H H' → Dts K H' vs ds → RW K w' H' → P ds w' → Q ((keys.map V.str).zip vs) H') → tPairs (pairT K keys ts) σ H Q
  | [], [], H, w, P, Q, _, E, W, h, k => k [] H [] w (EXT.refl H) .nil W h
  | kx :: keys, t :: ts, H, w, P, Q, hl, E, W, h, k => by
    refine ⟨ρ, w, _, E, W, h, fun v H1 d w1 e1 r1 W1 p1 => ?_⟩
    refine vals_sim keys ts (Nat.succ.inj hl) (E.ext e1) W1 p1 fun vs H2 ds w2 e2 r2 W2 p2 => ?_
    exact k (v :: vs) H2 (d :: ds) w2 (e1.trans e2) (.cons (r1.ext e2) r2) W2 p2
  | [], _ :: _, _, _, _, _, hl, _, _, _, _ => by cases hl
  | _ :: _, [], _, _, _, _, hl, _, _, _, _ => by cases hl
theorem mergeK_len (more : List (Key × V)) : (mergeK [] more).length ≤ more.length := by
  have h := length_mergeK more []
  simpa using h
theorem mergeK_val : ∀ (keys : List Str) (vs : List V) (acc : List (Key × V)) (k : Str), keys.length = vs.length → keys.Nodup → (k ∈ keys → valV acc (Sum.inr k) = none) →
    valV (mergeK acc ((keys.zip vs).map fun q => ((Sum.inr q.1 : Key), q.2))) (Sum.inr k) = (match (keys.zip vs).lookup k with | some v => some v | none => valV acc (Sum.inr k))
  | [], _, acc, k, _, _, _ => rfl
  | kx :: keys, [], _, _, hl, _, _ => by cases hl
  | kx :: keys, v :: vs, acc, k, hl, nd, hk => by
    obtain ⟨n1, n2⟩ := List.nodup_cons.mp nd
    show valV (mergeK (putK acc (Sum.inr kx) v) ((keys.zip vs).map fun q => ((Sum.inr q.1 : Key), q.2))) (Sum.inr k) = _
    by_cases e : k = kx
    · subst e
      have hno : (keys.zip vs).lookup k = none := by
        cases q : (keys.zip vs).lookup k with
        | none => rfl
        | some z =>
          exact absurd (List.of_mem_zip (PySem.mem_of_lookup q)).1 n1
      have main : ∀ (ks : List Str) (us : List V) (ac : List (Key × V)), k ∉ ks → valV (mergeK ac ((ks.zip us).map fun q => ((Sum.inr q.1 : Key), q.2))) (Sum.inr k) = valV ac (Sum.inr k) := by
        intro ks
        induction ks with
        | nil => intro us ac _; rfl
        | cons a ks ih =>
          intro us ac hn
          cases us with
          | nil => rfl
          | cons b us =>
            show valV (mergeK (putK ac (Sum.inr a) b) ((ks.zip us).map fun q => ((Sum.inr q.1 : Key), q.2))) (Sum.inr k) = _
            rw [ih us _ (fun z => hn (List.mem_cons_of_mem _ z)), valV_put, if_neg]
            intro z
            exact hn (by rw [Sum.inr.inj z]; exact List.mem_cons_self)
      rw [main keys vs _ n1, valV_put, if_pos rfl]
      show some v = (match (match k == k with | true => some v | false => (keys.zip vs).lookup k) with | some v => some v | none => _)
      rw [beq_self_eq_true]
    · rw [mergeK_val keys vs _ k (Nat.succ.inj hl) n2 (fun hm => by rw [valV_put, if_neg (fun z => e (Sum.inr.inj z))]; exact hk (List.mem_cons_of_mem _ hm)), valV_put, if_neg (fun z => e (Sum.inr.inj z))]
      show _ = (match (match k == kx with | true => some v | false => (keys.zip vs).lookup k) with | some v => some v | none => _)
      rw [beq_eq_false_iff_ne.mpr e]
theorem mkF_rel {K : PySem.W.Frag} {H : Hp} (k : Str) : ∀ (keys : List Str) {vs : List V} {ds : List D}, keys.length = vs.length → Dts K H vs ds → RelD K H ((keys.zip vs).lookup k) (mkF keys ds k)
  | [], _, _, hl, h => by cases h with
    | nil => exact True.intro
    | cons _ _ => cases hl
  | kx :: keys, _, _, hl, h => by
    cases h with
    | nil => cases hl
    | @cons v vs d ds h1 h2 =>
      have ih := mkF_rel k keys (Nat.succ.inj hl) h2
      show RelD K H (match k == kx with | true => some v | false => (keys.zip vs).lookup k) (if k = kx then some d else mkF keys ds k)
      by_cases e : k = kx
      · rw [if_pos e, beq_iff_eq.mpr e]
        exact h1
      · rw [if_neg e, beq_eq_false_iff_ne.mpr e]
        exact ih
theorem we_disp {ks : List (Option Expr)} {values : List Expr} {keys : List Str} {ts : List DE} (h : PPs X pos ks values (pairT X.K keys ts)) (hlen : keys.length = ts.length) (hall : ks.all (·.isSome) = true := by rfl) (hl : ks.length = values.length := by rfl) (h0 : ks ≠ [] := by intro z; cases z)
    (h15 : ks.length ≤ 15 := by decide) : WE X (.Dict ks values pos) (dDisp keys ts) := by
  refine pe_imp (pe_disp h hall hl h0 h15) fun σ H Q ⟨ρ, w, P, hE, hW, hT, k⟩ => ?_
  intro p hp
  have W0 : RW X.K (updW w p (.dct 0 fun _ => none)) (L2.upd H p (.dK [])) := hW.upd (EXT.new hp) (o := .dct 0 fun _ => none) ⟨[], upd_same, Nat.le_refl _, fun _ => True.intro⟩
  refine vals_sim keys ts hlen (hE.ext (EXT.new hp)) W0 (hT p (hW.fresh hp)) fun vs H2 ds w2 e2 r2 W2 ⟨⟨f, hw⟩, hd, h15', nd, pp⟩ => ?_
  obtain ⟨us, h1, h2, _⟩ := W2 p _ hw
  have e0 : us = [] := List.eq_nil_of_length_eq_zero (Nat.le_zero.mp h2)
  subst e0
  have hvl : keys.length = vs.length := by rw [r2.length, hd]
  have ee := EXT.put (o := .dK (mergeK [] ((keys.zip vs).map fun q => ((Sum.inr q.1 : Key), q.2)))) h1 trivial
  refine ⟨h1, (keys.zip vs).map fun q => ((Sum.inr q.1 : Key), q.2), ?_, by rw [List.length_map, List.length_zip, ← hvl, Nat.min_self]; exact h15', k _ _ _ _ ((EXT.new hp).trans (e2.trans ee)) (.ref p) (W2.upd ee (o := .dct keys.length (mkF keys ds)) ⟨_, upd_same, ?_, fun z => ?_⟩) pp⟩
  · rw [List.map_map]
    have g : ∀ (ks : List Str) (us : List V), (ks.map V.str).zip us = (ks.zip us).map ((fun kv : Key × V => (kV kv.1, kv.2)) ∘ fun q => ((Sum.inr q.1 : Key), q.2)) := by
      intro ks
      induction ks with
      | nil => intro us; rfl
      | cons a ks ih =>
        intro us
        cases us with
        | nil => rfl
        | cons b us =>
          show (V.str a, b) :: (ks.map V.str).zip us = (V.str a, b) :: _
          rw [ih us]
          rfl
    exact g keys vs
  · refine Nat.le_trans (mergeK_len _) ?_
    rw [List.length_map, List.length_zip]
    exact Nat.min_le_left _ _
  · rw [mergeK_val keys vs [] z hvl nd (fun _ => rfl)]
    have q := mkF_rel z keys hvl (r2.ext ee)
    cases e : (keys.zip vs).lookup z with
    | none =>
      rw [e] at q
      exact q
    | some v =>
      rw [e] at q
      exact q
end

/-! ### while -/
section
variable {X : Cx} {body : List Stmt} {t u : DS} {e c : Expr} {te : DE} {tc : DT} {tb : DS} {pos p2 : Pos}
def dWhile (c : DT) (tb : DS) : DS := fun D ρ w => ∃ Iv : Nat → DEnv → Wd → Prop, (∃ m, Iv m ρ w) ∧ ∀ m ρ w, Iv m ρ w → c ρ w fun b w1 =>
  (b = true → tb { D with nx := fun ρ' w' => ∃ m', m' < m ∧ Iv m' ρ' w', ct := fun ρ' w' => ∃ m', m' < m ∧ Iv m' ρ' w', bk := D.nx } ρ w1) ∧ (b = false → D.nx ρ w1)
theorem ws_while (hp : PassesOwn (model X.prog X.w) X.A X.env X.xe) (hc : WT X c tc) (hb : WSs X body tb) : WS X (.While c body [] pos) (dWhile tc tb) := by
  refine ps_imp (ps_while hp hc hb) fun D σ H ⟨ρ, w, DD, hE, hW, ⟨Iv, ⟨m0, h0⟩, turn⟩, k⟩ => ?_
  refine ⟨fun m σ' H' => EXT H H' ∧ ∃ ρ' w', RelE X.K H' σ' ρ' ∧ RW X.K w' H' ∧ Iv m ρ' w', ⟨m0, EXT.refl H, ρ, w, hE, hW, h0⟩, ?_⟩
  rintro m σ1 H1 ⟨e1, ρ1, w1, E1, W1, i1⟩
  refine ⟨ρ1, w1, _, E1, W1, turn m ρ1 w1 i1, fun b H2 w2 e2 W2 p => ?_⟩
  have E2 := E1.ext e2
  cases b with
  | true =>
    refine iteT ⟨fun σ' H' => ∃ m', m' < m ∧ EXT H H' ∧ ∃ ρ' w', RelE X.K H' σ' ρ' ∧ RW X.K w' H' ∧ Iv m' ρ' w', fun σ' H' ⟨m', hm, z⟩ => ⟨m', hm, z⟩, ρ1, w2, _, E2, W2, p.1 rfl, ⟨?_, ?_, ?_, ?_⟩⟩
    · exact fun σ3 H3 ρ3 w3 e3 E3 W3 ⟨m', hm, q⟩ => ⟨m', hm, e1.trans (e2.trans e3), ρ3, w3, E3, W3, q⟩
    · exact fun v H3 d w3 e3 r3 W3 q => k.rt v H3 d w3 (e1.trans (e2.trans e3)) r3 W3 q
    · exact fun σ3 H3 ρ3 w3 e3 E3 W3 q => k.nx σ3 H3 ρ3 w3 (e1.trans (e2.trans e3)) E3 W3 q
    · exact fun σ3 H3 ρ3 w3 e3 E3 W3 ⟨m', hm, q⟩ => ⟨m', hm, e1.trans (e2.trans e3), ρ3, w3, E3, W3, q⟩
  | false => exact iteF (k.nx σ1 H2 ρ1 w2 (e1.trans e2) E2 W2 (p.2 rfl))

/-! ### for -/
/-- over range(n) -/
def dForR (te : DE) (i : Nat) (tb : DS) : DS := fun D ρ w => te ρ w fun d w1 => match d with
  | .int n => -(2 ^ 62) ≤ n ∧ n < 2 ^ 62 ∧ ∃ Iv : Nat → DEnv → Wd → Prop, Iv 0 ρ w1 ∧
      (∀ k ρ w, k < n.toNat → Iv k ρ w → tb { D with nx := Iv (k + 1), ct := Iv (k + 1), bk := D.nx } (ρ.set i (some (.int (k : Nat)))) w) ∧ ∀ ρ w, Iv n.toNat ρ w → D.nx ρ w
  | _ => False
theorem ws_forR {i : Nat} {x : Str} {px p3 : Pos} (hp : PassesOwn (model X.prog X.w) X.A X.env X.xe) (hc : X.calm = true) (hN : X.N.Nodup) (hm : X.mg "range" = none) (he : WE X e te) (hb : WSs X body tb) (hi : X.N[i]? = some x := by rfl) (hx : Loc X.env.scope x := by first | exact Or.inl rfl | exact Or.inr rfl)
    (hg : Gl X "range" := by rfl) (hs : starEach [e] X.env = (false, eval e X.env) :: starEach [] X.env := by rfl) (hs1 : starEach [e] X.env = [(false, eval e X.env)] := by rfl)
    (hf : X.fn x = true ∨ X.env.scope.names.lookup x = some .local := by first | exact .inl rfl | exact .inr rfl)
    (hfs : ∀ y, foldedSetIterable (.Call (.Name "range" px) [e] [] p2) X.env y = pure y := by intro _; rfl) : WS X (.For (.Name x p3) (.Call (.Name "range" px) [e] [] p2) body [] pos) (dForR te i tb) := by
  refine ps_imp (ps_for hp hc (pi_range1 hg hm (pa_cons he pa_nil hs) hs1) (pg_name hN hi hx hf) hb hfs) fun D σ H ⟨ρ, w, DD, hE, hW, hT, k⟩ => ?_
  refine ⟨ρ, w, _, hE, hW, hT, fun v H1 d w1 e1 r1 W1 p => ?_⟩
  cases d with
  | int n =>
    obtain ⟨h1, h2, Iv, i0, turn, fin⟩ : -(2 ^ 62) ≤ n ∧ n < 2 ^ 62 ∧ ∃ Iv : Nat → DEnv → Wd → Prop, Iv 0 ρ w1 ∧
      (∀ k ρ w, k < n.toNat → Iv k ρ w → tb { DD with nx := Iv (k + 1), ct := Iv (k + 1), bk := DD.nx } (ρ.set i (some (.int (k : Nat)))) w) ∧ ∀ ρ w, Iv n.toNat ρ w → DD.nx ρ w := p
    cases r1
    refine ⟨n, rfl, h1, h2, for_range (lo := 0) (n := n.toNat) (fun j σ' H' => EXT H H' ∧ ∃ ρ' w', RelE X.K H' σ' ρ' ∧ RW X.K w' H' ∧ Iv j ρ' w') ⟨e1, ρ, w1, hE.ext e1, W1, i0⟩ ?_ ?_⟩
    · rintro j σ2 H2 hj ⟨e2, ρ2, w2, E2, W2, q2⟩
      have ej : (0 : Int) + (j : Int) = (j : Nat) := by omega
      refine ⟨ρ2.set i (some (.int (j : Nat))), w2, _, ?_, W2, turn j ρ2 w2 hj q2, ⟨?_, ?_, ?_, ?_⟩⟩
      · rw [ej]
        exact E2.set (.int _) i
      · exact fun σ3 H3 ρ3 w3 e3 E3 W3 q => ⟨e2.trans e3, ρ3, w3, E3, W3, q⟩
      · exact fun v H3 d w3 e3 r3 W3 q => k.rt v H3 d w3 (e2.trans e3) r3 W3 q
      · exact fun σ3 H3 ρ3 w3 e3 E3 W3 q => k.nx σ3 H3 ρ3 w3 (e2.trans e3) E3 W3 q
      · exact fun σ3 H3 ρ3 w3 e3 E3 W3 q => ⟨e2.trans e3, ρ3, w3, E3, W3, q⟩
    · rintro σ2 H2 ⟨e2, ρ2, w2, E2, W2, q2⟩
      exact k.nx σ2 H2 ρ2 w2 e2 E2 W2 (fin ρ2 w2 q2)
  | _ => exact False.elim p
/-- over a list (or one that is only read) -/
def dForL (te : DE) (i : Nat) (tb : DS) : DS := fun D ρ w => te ρ w fun d w1 => ∃ ds, (d = .rol ds ∨ ∃ a, d = .ref a ∧ w1 a = some (.lst ds)) ∧ ∃ Iv : Nat → DEnv → Wd → Prop, Iv 0 ρ w1 ∧
  (∀ k ρ w a, d = .ref a → k ≤ ds.length → Iv k ρ w → w a = some (.lst ds)) ∧
  (∀ k x ρ w, ds[k]? = some x → Iv k ρ w → tb { D with nx := Iv (k + 1), ct := Iv (k + 1), bk := D.nx } (ρ.set i (some x)) w) ∧ ∀ ρ w, Iv ds.length ρ w → D.nx ρ w
theorem ws_forL {i : Nat} {x : Str} {p3 : Pos} (hp : PassesOwn (model X.prog X.w) X.A X.env X.xe) (hc : X.calm = true) (hN : X.N.Nodup) (he : WE X e te) (hb : WSs X body tb) (hi : X.N[i]? = some x := by rfl) (hx : Loc X.env.scope x := by first | exact Or.inl rfl | exact Or.inr rfl)
    (hf : X.fn x = true ∨ X.env.scope.names.lookup x = some .local := by first | exact .inl rfl | exact .inr rfl)
    (hfs : ∀ y, foldedSetIterable e X.env y = pure y := by intro _; rfl) : WS X (.For (.Name x p3) e body [] pos) (dForL te i tb) := by
  refine ps_imp (ps_for hp hc (pi_list he) (pg_name hN hi hx hf) hb hfs) fun D σ H ⟨ρ, w, DD, hE, hW, hT, k⟩ => ?_
  refine ⟨ρ, w, _, hE, hW, hT, fun v H1 d w1 e1 r1 W1 ⟨ds, hd, Iv, i0, stay, turn, fin⟩ => ?_⟩
  obtain ⟨a, xs, rfl, rxs, hstay⟩ : ∃ a xs, v = .ref a ∧ Dts X.K H1 xs ds ∧ ∀ H' w' ρ' j, EXT H1 H' → RW X.K w' H' → j ≤ ds.length → Iv j ρ' w' → SqL X.K H' a xs ∨ (∃ ys, H' a = some (.lst ys) ∧ Dts X.K H' ys ds) := by
    rcases hd with rfl | ⟨a, rfl, ha⟩
    · cases r1 with
      | @rol a xs _ ha rxs => exact ⟨a, xs, rfl, rxs, fun H' _ _ _ ee _ _ _ => .inl (ee.roL ha).sq⟩
    · cases r1
      obtain ⟨xs, h1, rxs⟩ := W1 a _ ha
      exact ⟨a, xs, rfl, rxs, fun H' w' ρ' j _ WW hj q => .inr (WW a _ (stay j ρ' w' a rfl hj q))⟩
  have hl := rxs.length
  have sq0 : ∃ xs, SqL X.K H1 a xs := by
    rcases hstay H1 w1 ρ 0 (EXT.refl H1) W1 (Nat.zero_le _) i0 with h | ⟨ys, h, _⟩
    · exact ⟨xs, h⟩
    · exact ⟨ys, SqL.of h⟩
  refine ⟨a, rfl, sq0, fun j m σ' H' => m = ds.length - j ∧ j ≤ ds.length ∧ EXT H1 H' ∧ ∃ ρ' w', RelE X.K H' σ' ρ' ∧ RW X.K w' H' ∧ Iv j ρ' w', ⟨ds.length, by simp, Nat.zero_le _, EXT.refl H1, ρ, w1, hE.ext e1, W1, i0⟩, ?_⟩
  rintro j m σ2 H2 ⟨rfl, hj, e2, ρ2, w2, E2, W2, q2⟩
  obtain ⟨ys, sq, rys⟩ : ∃ ys, SqL X.K H2 a ys ∧ Dts X.K H2 ys ds := by
    rcases hstay H2 w2 ρ2 j e2 W2 hj q2 with h | ⟨ys, h, r⟩
    · exact ⟨xs, h, rxs.ext e2⟩
    · exact ⟨ys, SqL.of h, r⟩
  by_cases hlt : j < ds.length
  · have hlt' : j < ys.length := by rw [rys.length]; exact hlt
    refine .inr ⟨⟨ys, ys[j], sq, by simp [hlt']⟩, fun σ' H' => EXT H1 H' ∧ ∃ ρ' w', RelE X.K H' σ' ρ' ∧ RW X.K w' H' ∧ Iv (j + 1) ρ' w', fun σ' H' z => ⟨ds.length - (j + 1), by omega, rfl, hlt, z⟩, fun x H' y => ?_⟩
    obtain ⟨rfl, y⟩ := y
    obtain ⟨dx, hdx, rx⟩ := rys.getV (y ys sq)
    refine ⟨ρ2.set i (some dx), w2, _, E2.set rx i, W2, turn j dx ρ2 w2 hdx q2, ⟨?_, ?_, ?_, ?_⟩⟩
    · exact fun σ3 H3 ρ3 w3 e3 E3 W3 q => ⟨e2.trans e3, ρ3, w3, E3, W3, q⟩
    · exact fun v H3 d w3 e3 r3 W3 q => k.rt v H3 d w3 (e1.trans (e2.trans e3)) r3 W3 q
    · exact fun σ3 H3 ρ3 w3 e3 E3 W3 q => k.nx σ3 H3 ρ3 w3 (e1.trans (e2.trans e3)) E3 W3 q
    · exact fun σ3 H3 ρ3 w3 e3 E3 W3 q => ⟨e2.trans e3, ρ3, w3, E3, W3, q⟩
  · have ej : j = ds.length := by omega
    subst ej
    exact .inl ⟨⟨ys, sq, by rw [rys.length]; exact Nat.le_refl _⟩, k.nx σ2 H2 ρ2 w2 (e1.trans e2) E2 W2 (fin ρ2 w2 q2)⟩
end
end Rs
set_option maxHeartbeats 4000000
/-! The D-layer: comprehensions, defs, calls of defs, the generator. -/
namespace Rs
open PySem PySem.Spec PyProof.Rows L2

/-! ### comprehensions over one name -/
section
variable {K : PySem.W.Frag} {H : Hp} {σ : L2.St} {ρ : DEnv} {v : V} {d : D} {i : Nat}
theorem wipe_back (σ : L2.St) (i : Nat) (x : Option V) : wipe ((wipe σ [i]).set i x) [i] = wipe σ [i] := by
  show ((σ.set i none).set i x).set i none = σ.set i none
  rw [List.set_set, List.set_set]
theorem relE_wipe (E : RelE K H σ ρ) (r : Dt K H v d) (i : Nat) : RelE K H ((wipe σ [i]).set i (some v)) (ρ.set i (some d)) := by
  show RelE K H ((σ.set i none).set i (some v)) (ρ.set i (some d))
  rw [List.set_set]
  exact E.set r i
end
/-- [e for x in range(n)] -/
def dLcR (ta : DE) (i : Nat) (te : DE) : DE := fun ρ w P => ta ρ w fun d w1 => match d with
  | .int n => -(2 ^ 62) ≤ n ∧ n < 2 ^ 62 ∧ ∀ p, w1 p = none → ∃ Iv : Nat → Wd → Prop, Iv 0 (updW w1 p (.lst [])) ∧
      (∀ (k : Nat) w, k < n.toNat → Iv k w → te (ρ.set i (some (.int (k : Nat)))) w fun d w' => ∃ acc, w' p = some (.lst acc) ∧ acc.length < sizeLine ∧ Iv (k + 1) (updW w' p (.lst (acc ++ [d])))) ∧ ∀ w, Iv n.toNat w → P (.ref p) w
  | _ => False
/-- [e for x in xs], xs a list, one that is only read, a tuple -/
def dLcL (ta : DE) (i : Nat) (te : DE) : DE := fun ρ w P => ta ρ w fun d w1 => ∃ ds, (d = .rol ds ∨ ∃ a, d = .ref a ∧ w1 a = some (.lst ds)) ∧ ∀ p, w1 p = none → ∃ Iv : Nat → Wd → Prop, Iv 0 (updW w1 p (.lst [])) ∧
  (∀ (k : Nat) w a, d = .ref a → k ≤ ds.length → Iv k w → w a = some (.lst ds)) ∧
  (∀ (k : Nat) x w, ds[k]? = some x → Iv k w → te (ρ.set i (some x)) w fun d w' => ∃ acc, w' p = some (.lst acc) ∧ acc.length < sizeLine ∧ Iv (k + 1) (updW w' p (.lst (acc ++ [d])))) ∧ ∀ w, Iv ds.length w → P (.ref p) w
def dLcT (ta : DE) (i : Nat) (te : DE) : DE := fun ρ w P => ta ρ w fun d w1 => match d with
  | .tup ds => ∀ p, w1 p = none → ∃ Iv : Nat → Wd → Prop, Iv 0 (updW w1 p (.lst [])) ∧
      (∀ (k : Nat) x w, ds[k]? = some x → Iv k w → te (ρ.set i (some x)) w fun d w' => ∃ acc, w' p = some (.lst acc) ∧ acc.length < sizeLine ∧ Iv (k + 1) (updW w' p (.lst (acc ++ [d])))) ∧ ∀ w, Iv ds.length w → P (.ref p) w
  | _ => False
section
variable {K : PySem.W.Frag} {ta te : DE} {i : Nat}
theorem lcR_sim {σ : L2.St} {H : Hp} {Q : VK} (h : can K (dLcR ta i te) σ H Q) : tLc (iRng1 (tCons (can K ta) tNil)) (gName i) tYes (can K te) [i] σ H Q := by
  obtain ⟨ρ, w, P, hE, hW, hT, k⟩ := h
  refine ⟨ρ, w, _, hE, hW, hT, fun v H1 d w1 e1 r1 W1 p1 => ?_⟩
  cases d with
  | int n =>
    obtain ⟨h1, h2, go⟩ : -(2 ^ 62) ≤ n ∧ n < 2 ^ 62 ∧ ∀ p, w1 p = none → ∃ Iv : Nat → Wd → Prop, Iv 0 (updW w1 p (.lst [])) ∧
      (∀ (k : Nat) w, k < n.toNat → Iv k w → te (ρ.set i (some (.int (k : Nat)))) w fun d w' => ∃ acc, w' p = some (.lst acc) ∧ acc.length < sizeLine ∧ Iv (k + 1) (updW w' p (.lst (acc ++ [d])))) ∧ ∀ w, Iv n.toNat w → P (.ref p) w := p1
    cases r1
    refine ⟨n, rfl, h1, h2, fun p hp => ?_⟩
    obtain ⟨Iv, i0, turn, fin⟩ := go p (W1.fresh hp)
    refine lc_range (lo := 0) (n := n.toNat) (fun j H' => EXT H H' ∧ ∃ w', RW K w' H' ∧ Iv j w') ⟨e1.trans (EXT.new hp), _, W1.newL hp .nil, i0⟩ ?_ ?_
    · rintro j H2 hj ⟨e2, w2, W2, q2⟩
      have ej : (0 : Int) + (j : Int) = (j : Nat) := by omega
      refine ⟨wipe_back σ i _, ?_⟩
      unfold tYes
      refine iteT ⟨ρ.set i (some (.int (j : Nat))), w2, _, ?_, W2, turn j w2 hj q2, fun u H3 d3 w3 e3 r3 W3 ⟨acc, ha, hl, q3⟩ => ?_⟩
      · rw [ej]
        exact relE_wipe (hE.ext e2) (.int _) i
      · obtain ⟨xs, h3, rxs⟩ := W3 p _ ha
        exact ⟨xs, h3, by rw [rxs.length]; exact hl, e2.trans (e3.trans (EXT.put h3 trivial)), _, W3.putL h3 trivial (rxs.append (.cons r3 .nil)), q3⟩
    · rintro H2 ⟨e2, w2, W2, q2⟩
      exact k _ H2 _ w2 e2 (.ref p) W2 (fin w2 q2)
  | _ => exact False.elim p1
theorem lcL_sim {σ : L2.St} {H : Hp} {Q : VK} (h : can K (dLcL ta i te) σ H Q) : tLc (iList K (can K ta)) (gName i) tYes (can K te) [i] σ H Q := by
  obtain ⟨ρ, w, P, hE, hW, hT, k⟩ := h
  refine ⟨ρ, w, _, hE, hW, hT, fun v H1 d w1 e1 r1 W1 ⟨ds, hd, go⟩ => ?_⟩
  obtain ⟨a, xs, rfl, rxs, sq1, hstay⟩ : ∃ a xs, v = .ref a ∧ Dts K H1 xs ds ∧ SqL K H1 a xs ∧ ((∀ H', EXT H1 H' → SqL K H' a xs) ∨ (d = .ref a ∧ w1 a = some (.lst ds))) := by
    rcases hd with rfl | ⟨a, rfl, ha⟩
    · cases r1 with
      | @rol a xs _ ha rxs => exact ⟨a, xs, rfl, rxs, ha.sq, .inl fun H' ee => (ee.roL ha).sq⟩
    · cases r1
      obtain ⟨xs, h1, rxs⟩ := W1 a _ ha
      exact ⟨a, xs, rfl, rxs, SqL.of h1, .inr ⟨rfl, ha⟩⟩
  refine ⟨a, rfl, ⟨xs, sq1⟩, fun p hp => ?_⟩
  obtain ⟨Iv, i0, stay, turn, fin⟩ := go p (W1.fresh hp)
  refine ⟨fun j m H' => m = ds.length - j ∧ j ≤ ds.length ∧ EXT H1 H' ∧ ∃ w', RW K w' H' ∧ Iv j w', ⟨ds.length, by simp, Nat.zero_le _, EXT.new hp, _, W1.newL hp .nil, i0⟩, ?_⟩
  rintro j m H2 ⟨rfl, hj, e2, w2, W2, q2⟩
  obtain ⟨ys, sq, rys⟩ : ∃ ys, SqL K H2 a ys ∧ Dts K H2 ys ds := by
    rcases hstay with h | ⟨rfl, _⟩
    · exact ⟨xs, h H2 e2, rxs.ext e2⟩
    · obtain ⟨ys, h1, r⟩ := W2 a _ (stay j w2 a rfl hj q2)
      exact ⟨ys, SqL.of h1, r⟩
  by_cases hlt : j < ds.length
  · have hlt' : j < ys.length := by rw [rys.length]; exact hlt
    refine .inr ⟨⟨ys, ys[j], sq, by simp [hlt']⟩, fun H' => EXT H1 H' ∧ ∃ w', RW K w' H' ∧ Iv (j + 1) w', fun H' z => ⟨ds.length - (j + 1), by omega, rfl, hlt, z⟩, fun x H' y => ?_⟩
    obtain ⟨rfl, y⟩ := y
    obtain ⟨dx, hdx, rx⟩ := rys.getV (y ys sq)
    refine ⟨wipe_back σ i _, ?_⟩
    unfold tYes
    refine iteT ⟨ρ.set i (some dx), w2, _, relE_wipe (hE.ext (e1.trans e2)) rx i, W2, turn j dx w2 hdx q2, fun u H3 d3 w3 e3 r3 W3 ⟨acc, ha, hl, q3⟩ => ?_⟩
    obtain ⟨zs, h3, rzs⟩ := W3 p _ ha
    exact ⟨zs, h3, by rw [rzs.length]; exact hl, e2.trans (e3.trans (EXT.put h3 trivial)), _, W3.putL h3 trivial (rzs.append (.cons r3 .nil)), q3⟩
  · have ej : j = ds.length := by omega
    subst ej
    exact .inl ⟨⟨ys, sq, by rw [rys.length]; exact Nat.le_refl _⟩, k _ H2 _ w2 (e1.trans e2) (.ref p) W2 (fin w2 q2)⟩
theorem lcT_sim {σ : L2.St} {H : Hp} {Q : VK} (h : can K (dLcT ta i te) σ H Q) : tLc (iTup K (can K ta)) (gName i) tYes (can K te) [i] σ H Q := by
  obtain ⟨ρ, w, P, hE, hW, hT, k⟩ := h
  refine ⟨ρ, w, _, hE, hW, hT, fun v H1 d w1 e1 r1 W1 p1 => ?_⟩
  cases d with
  | tup ds =>
    have go : ∀ p, w1 p = none → ∃ Iv : Nat → Wd → Prop, Iv 0 (updW w1 p (.lst [])) ∧
      (∀ (k : Nat) x w, ds[k]? = some x → Iv k w → te (ρ.set i (some x)) w fun d w' => ∃ acc, w' p = some (.lst acc) ∧ acc.length < sizeLine ∧ Iv (k + 1) (updW w' p (.lst (acc ++ [d])))) ∧ ∀ w, Iv ds.length w → P (.ref p) w := p1
    cases r1 with
    | @tup a xs _ ha rxs =>
      refine ⟨a, rfl, ⟨xs, ha⟩, fun p hp => ?_⟩
      obtain ⟨Iv, i0, turn, fin⟩ := go p (W1.fresh hp)
      refine lc_tup (xs := xs) (fun j H' => EXT H1 H' ∧ ∃ w', RW K w' H' ∧ Iv j w') ⟨EXT.new hp, _, W1.newL hp .nil, i0⟩ (fun j H' _ q => q.1.sqT ha) ?_ ?_
      · rintro j x H2 hx ⟨e2, w2, W2, q2⟩
        obtain ⟨dx, hdx, rx⟩ := (rxs.ext e2).getV hx
        refine ⟨wipe_back σ i _, ?_⟩
        unfold tYes
        refine iteT ⟨ρ.set i (some dx), w2, _, relE_wipe (hE.ext (e1.trans e2)) rx i, W2, turn j dx w2 hdx q2, fun u H3 d3 w3 e3 r3 W3 ⟨acc, ha, hl, q3⟩ => ?_⟩
        obtain ⟨zs, h3, rzs⟩ := W3 p _ ha
        exact ⟨zs, h3, by rw [rzs.length]; exact hl, e2.trans (e3.trans (EXT.put h3 trivial)), _, W3.putL h3 trivial (rzs.append (.cons r3 .nil)), q3⟩
      · rintro H2 ⟨e2, w2, W2, q2⟩
        refine k _ H2 _ w2 (e1.trans e2) (.ref p) W2 (fin w2 ?_)
        rw [← rxs.length]
        exact q2
  | _ => exact False.elim p1
end
section
variable {X : Cx} {elt a src : Expr} {scope : Scope} {x : Str} {i : Nat} {pos px pr p2 : Pos} {ta te : DE}
abbrev BlkE (X : Cx) (scope : Scope) (elt : Expr) (te : DE) : Prop := ∀ (s : Shared) (H : Hp) (C : Addr) (cl : List (Str × Addr)) (fp : List Addr), WE (X.blk s H scope (compEnvC scope cl C X.env) fp) elt te
abbrev BlkG (X : Cx) (scope : Scope) (tg : Expr) (i : Nat) : Prop := ∀ (s : Shared) (H : Hp) (C : Addr) (cl : List (Str × Addr)) (fp : List Addr), PG (X.blk s H scope (compEnvC scope cl C X.env) fp) tg (gName i)
theorem we_lcR (hc : X.calm = true) (hN : X.N.Nodup) (hm : X.mg "range" = none) (ha : WE X a ta) (ok : BlkOk X.N X.env.scope scope [(x, i)]) (hg : BlkG X scope (.Name x px) i) (he : BlkE X scope elt te) (hgr : Gl X "range" := by rfl)
    (hs : starEach [a] X.env = (false, eval a X.env) :: starEach [] X.env := by rfl) (hs1 : starEach [a] X.env = [(false, eval a X.env)] := by rfl) (hfs : ∀ y, foldedSetIterable (.Call (.Name "range" pr) [a] [] p2) X.env y = pure y := by intro _; rfl) :
    WE X (.ListComp elt [⟨.Name x px, .Call (.Name "range" pr) [a] [] p2, [], 0⟩] scope pos) (dLcR ta i te) :=
  pe_imp (pe_lc hc hN (pi_range1 hgr hm (pa_cons ha pa_nil hs) hs1) ok hg (fun _ _ _ _ _ => pts_nil) he hfs) fun _ _ _ q => lcR_sim q
theorem we_lcL (hc : X.calm = true) (hN : X.N.Nodup) (ha : WE X src ta) (ok : BlkOk X.N X.env.scope scope [(x, i)]) (hg : BlkG X scope (.Name x px) i) (he : BlkE X scope elt te) (hfs : ∀ y, foldedSetIterable src X.env y = pure y := by intro _; rfl) :
    WE X (.ListComp elt [⟨.Name x px, src, [], 0⟩] scope pos) (dLcL ta i te) :=
  pe_imp (pe_lc hc hN (pi_list ha) ok hg (fun _ _ _ _ _ => pts_nil) he hfs) fun _ _ _ q => lcL_sim q
theorem we_lcT (hc : X.calm = true) (hN : X.N.Nodup) (ha : WE X src ta) (ok : BlkOk X.N X.env.scope scope [(x, i)]) (hg : BlkG X scope (.Name x px) i) (he : BlkE X scope elt te) (hfs : ∀ y, foldedSetIterable src X.env y = pure y := by intro _; rfl) :
    WE X (.ListComp elt [⟨.Name x px, src, [], 0⟩] scope pos) (dLcT ta i te) :=
  pe_imp (pe_lc hc hN (pi_tup ha) ok hg (fun _ _ _ _ _ => pts_nil) he hfs) fun _ _ _ q => lcT_sim q
/-- name = [e for x in range(n)] on one line -/
theorem ws_setLcR {y : Str} {j : Nat} {py spos : Pos} (hc : X.calm = true) (hN : X.N.Nodup) (hm : X.mg "range" = none) (hyl : X.env.scope.names.lookup y = some .local) (hsw : swapsWith (.ListComp elt [⟨.Name x px, .Call (.Name "range" pr) [a] [] p2, [], 0⟩] scope pos) (some (.Name y py)) spos.line X.env = pure true)
    (ha : WE X a ta) (ok : BlkOk X.N X.env.scope scope [(x, i)]) (hg : BlkG X scope (.Name x px) i) (he : BlkE X scope elt te) (hy : X.N[j]? = some y := by rfl) (hgr : Gl X "range" := by rfl)
    (hs : starEach [a] X.env = (false, eval a X.env) :: starEach [] X.env := by rfl) (hs1 : starEach [a] X.env = [(false, eval a X.env)] := by rfl) (hfs : ∀ y, foldedSetIterable (.Call (.Name "range" pr) [a] [] p2) X.env y = pure y := by intro _; rfl) :
    WS X (.Assign [.Name y py] (.ListComp elt [⟨.Name x px, .Call (.Name "range" pr) [a] [] p2, [], 0⟩] scope pos) spos) (dSet (dLcR ta i te) j) := by
  refine ps_imp (ps_setLc (te := can X.K te) hc hN hy hyl hsw (pi_range1 hgr hm (pa_cons ha pa_nil hs) hs1) ok hg (fun _ _ _ _ _ => pts_nil) he hfs) fun D σ H ⟨ρ, w, DD, hE, hW, hT, k⟩ => ?_
  exact lcR_sim ⟨ρ, w, _, hE, hW, hT, fun v H1 d w1 e1 r1 W1 p => k.nx _ H1 _ w1 e1 ((hE.ext e1).set r1 j) W1 p⟩
end

/-! ### defs and their calls -/
/-- a def's promise by D-values -/
abbrev DSp := List D → Wd → (D → Wd → Prop) → Prop
def spD (K : PySem.W.Frag) (n : Nat) (F : DSp) : Sp := fun vs H Q _ => ∃ ds w P, Dts K H vs ds ∧ RW K w H ∧ ds.length = n ∧ F ds w P ∧ ∀ v H' d w', EXT H H' → Dt K H' v d → RW K w' H' → P d w' → Q v H'
/-- a def of the module that keeps a promise, by level k -/
structure Kp (P : Program) (w : World) (K : PySem.W.Frag) (mg : Str → Option Value) (base : Heap) (k : Nat) (x : Str) (ps : List Str) (F : DSp) : Prop where
  ex : ∃ (f : Addr) (fd : FuncData), mg x = some (.ref f) ∧ PySem.W.keepIn K (.ref f) = true ∧ Binds K fd ps [] ∧ FnOk P w K mg base CX0 k f fd ps (spD K ps.length F)
theorem Kp.mono {P : Program} {w : World} {K : PySem.W.Frag} {mg : Str → Option Value} {base : Heap} {j k : Nat} {x : Str} {ps : List Str} {F : DSp} (h : Kp P w K mg base j x ps F) (l : j ≤ k) : Kp P w K mg base k x ps F := by
  obtain ⟨f, fd, h1, h2, h3, h4⟩ := h.ex
  exact ⟨f, fd, h1, h2, h3, h4.mono l⟩
theorem spD_imp {K : PySem.W.Frag} {n : Nat} {F F' : DSp} (h : ∀ ds w P, F' ds w P → F ds w P) : ∀ vs H Q E, spD K n F' vs H Q E → spD K n F vs H Q E := fun vs H Q E ⟨ds, w, P, a, b, c, d, e⟩ => ⟨ds, w, P, a, b, c, h ds w P d, e⟩
theorem Kp.imp {P : Program} {w : World} {K : PySem.W.Frag} {mg : Str → Option Value} {base : Heap} {k : Nat} {x : Str} {ps : List Str} {F F' : DSp} (h : Kp P w K mg base k x ps F) (i : ∀ ds w P, F' ds w P → F ds w P) : Kp P w K mg base k x ps F' := by
  obtain ⟨f, fd, h1, h2, h3, h4⟩ := h.ex
  exact ⟨f, fd, h1, h2, h3, h4.imp (spD_imp i)⟩
def dCall (n : Nat) (F : DSp) (t : DA) : DE := fun ρ w P => t ρ w fun ds w1 => ds.length = n ∧ F ds w1 P
section
variable {X : Cx} {x : Str} {p pos : Pos} {e : Expr} {es : List Expr} {tes : DA} {k : Nat} {ps : List Str} {F : DSp}
theorem we_call (C : Kp X.prog X.w X.K X.mg X.base k x ps F) (hr : Room k X.A) (ha : WA X (e :: es) tes) (hg : Gl X x := by rfl) (hdb : (x == ("__debug__" : Str)) = false := by decide)
    (he : starEach (e :: es) X.env = (false, eval e X.env) :: starEach es X.env := by rfl) (hpl : (backTo pos (starEach es X.env)).any (·.1) = false := by rfl) : WE X (.Call (.Name x p) (e :: es) [] pos) (dCall ps.length F tes) := by
  obtain ⟨f, fd, h1, h2, h3, h4⟩ := C.ex
  refine pe_imp (pe_call h4 hr hg h1 h2 h3 .nil pass0 ha hdb he hpl) fun σ H Q ⟨ρ, w, P, hE, hW, hT, k⟩ => ?_
  refine ⟨ρ, w, _, hE, hW, hT, fun vs H1 ds w1 e1 r1 W1 ⟨hl, p1⟩ => ?_⟩
  show spD X.K ps.length F (vs ++ []) H1 Q E0
  rw [List.append_nil]
  exact ⟨ds, w1, P, r1, W1, hl, p1, fun v H2 d w2 e2 => k v H2 d w2 (e1.trans e2)⟩
theorem we_call0 (C : Kp X.prog X.w X.K X.mg X.base k x [] F) (hr : Room k X.A) (hg : Gl X x := by rfl) (hdb : (x == ("__debug__" : Str)) = false := by decide) : WE X (.Call (.Name x p) [] [] pos) (dCall 0 F dNil) := by
  obtain ⟨f, fd, h1, h2, h3, h4⟩ := C.ex
  refine pe_imp (pe_call0 h4 hr hg h1 h2 h3 .nil pass0 hdb) fun σ H Q ⟨ρ, w, P, hE, hW, hT, k⟩ => ?_
  exact ⟨[], w, P, .nil, hW, rfl, hT.2, fun v H2 d w2 e2 => k v H2 d w2 e2⟩
end
/-- the slots at a def's entry -/
def startD (N : List Str) (ds : List D) : DEnv := ds.map some ++ List.replicate (N.length - ds.length) none
theorem relE_start {K : PySem.W.Frag} {H : Hp} {N : List Str} {vs : List V} {ds : List D} (r : Dts K H vs ds) : RelE K H (L2.start N vs) (startD N ds) := by
  have hl := r.length
  refine ⟨?_, fun i d q => ?_⟩
  · unfold L2.start startD
    rw [List.length_append, List.length_append, List.length_map, List.length_map, List.length_replicate, List.length_replicate, hl]
  · unfold startD at q
    by_cases hi : i < ds.length
    · rw [List.getElem?_append_left (by simpa using hi), List.getElem?_map] at q
      cases e : ds[i]? with
      | none => rw [e] at q; cases q
      | some d' =>
        rw [e] at q
        cases q
        obtain ⟨v, h1, h2⟩ := r.get e
        refine ⟨v, ?_, h2⟩
        unfold L2.start
        rw [List.getElem?_append_left (by simpa [hl] using hi), List.getElem?_map, h1]
        rfl
    · rw [List.getElem?_append_right (by simpa using hi), List.getElem?_replicate] at q
      split at q <;> cases q
/-- a def's end: the world may tell less -/
def endD (P : D → Wd → Prop) : DEnds := { nx := fun _ w => ∃ w', LE w' w ∧ P .non w', rt := fun d w => ∃ w', LE w' w ∧ P d w' }
theorem sim_end {K : PySem.W.Frag} {H : Hp} {P : D → Wd → Prop} {Q : VK} (k : ∀ v H' d w', EXT H H' → Dt K H' v d → RW K w' H' → P d w' → Q v H') : SimE K H (endD P) { nx := fun _ H' => Q .non H', rt := Q } :=
  ⟨fun _ H' _ w' e _ W ⟨w2, l, p⟩ => k .non H' .non w2 e .non (W.le l) p, fun v H' d w' e r W ⟨w2, l, p⟩ => k v H' d w2 e r (W.le l) p, fun _ _ _ _ _ _ _ z => z.elim, fun _ _ _ _ _ _ _ z => z.elim⟩
section
variable {P : Program} {w : World} {K : PySem.W.Frag} {mg : Str → Option Value} {base : Heap} {x : Str} {params : Arguments} {body : List Stmt} {scope : Scope} {f : Addr} {fd : FuncData} {N ps : List Str} {k : Nat} {F : DSp}
/-- THE RULE for a def -/
theorem kp_of (D : FunD K x x params body scope [] [] f fd) (hm : mg x = some (.ref f)) (S : FnScope N ps scope)
    (hb : ∀ (kV doc pm : Value) (an : Option Addr) (cdv ct : Value) (us : List Value), us.length = ps.length → bindArgs (PySem.W.fnOf x x params body scope .none kV doc pm an cdv ct) ⟨us, []⟩ = pure (ps.zip us))
    (hbody : ∀ (cdv : Value) (A : Around) (outer : List Env) (s : Shared) (H : Hp) (E : XK), Room k (A.deeper (envOfC x scope s.heap.objs.size f cdv)) →
      ∃ T, WSs (cxOf CX0 P w K mg base N x scope f cdv A outer s H E).nox body T ∧ ∀ ds wd Q, ds.length = ps.length → F ds wd Q → T (endD Q) (startD N ds) wd) : Kp P w K mg base (k + 1) x ps F := by
  refine ⟨f, fd, hm, D.kp, D.bindsN hb, D.ok S (fun vs H Q E ⟨ds, _, _, r, _, hl, _⟩ => r.length.trans hl) fun cdv A outer s H vs Q E hr ⟨ds, wd, PP, r, W, hl, hF, k⟩ => ?_⟩
  obtain ⟨T, h1, h2⟩ := hbody cdv A outer s H E hr
  exact ⟨_, h1.nox, startD N ds, wd, endD PP, relE_start r, W, h2 ds wd PP hl hF, sim_end k⟩
end
end Rs
set_option maxHeartbeats 4000000
/-! The D-layer: keyword-only calls, a generator def of ints. -/
namespace Rs
open PySem PySem.Spec PyProof.Rows L2

/-! ### f(a, b, k = c), k keyword-only -/
structure KpK (P : Program) (w : World) (K : PySem.W.Frag) (mg : Str → Option Value) (base : Heap) (k : Nat) (x : Str) (ps : List Str) (n : Nat) (ks : List Str) (F : DSp) : Prop where
  ex : ∃ (f : Addr) (fd : FuncData), mg x = some (.ref f) ∧ PySem.W.keepIn K (.ref f) = true ∧ KBn K fd ps n ks (fun us ws => us ++ ws) (fun vs zs => vs ++ zs) ∧ FnOk P w K mg base CX0 k f fd ps (spD K ps.length F)
theorem KpK.mono {P : Program} {w : World} {K : PySem.W.Frag} {mg : Str → Option Value} {base : Heap} {j k : Nat} {x : Str} {ps : List Str} {n : Nat} {ks : List Str} {F : DSp} (h : KpK P w K mg base j x ps n ks F) (l : j ≤ k) : KpK P w K mg base k x ps n ks F := by
  obtain ⟨f, fd, h1, h2, h3, h4⟩ := h.ex
  exact ⟨f, fd, h1, h2, h3, h4.mono l⟩
def dCallK (n m l : Nat) (F : DSp) (t tk : DA) : DE := fun ρ w P => t ρ w fun ds w1 => tk ρ w1 fun zs w2 => ds.length = n ∧ zs.length = m ∧ (ds ++ zs).length = l ∧ F (ds ++ zs) w2 P
abbrev WK (X : Cx) (kws : List Keyword) (T : DA) : Prop := PK X kws (canA X.K T)
section
variable {X : Cx} {x : Str} {p pos kpos : Pos} {e : Expr} {es : List Expr} {tes tk : DA} {te : DE} {k n : Nat} {ps ks : List Str} {F : DSp} {kws : List Keyword} {nm : Option Str}
theorem wk_nil : WK X [] dNil := by
  have h := pk_nil (X := X)
  exact ⟨fun pos pins s σ H Q I ⟨ρ, w, P, hE, hW, hT, k⟩ => h.run pos pins s σ H Q I (k [] H [] w (EXT.refl H) .nil hW hT)⟩
theorem wk_cons (ha : WE X e te) (hr : WK X kws tk) : WK X (⟨nm, e, kpos⟩ :: kws) (dCons te tk) := by
  have h := pk_cons (nm := nm) (kpos := kpos) ha hr
  refine ⟨fun pos pins s σ H Q I ⟨ρ, w, P, hE, hW, hT, k⟩ => h.run pos pins s σ H Q I ?_⟩
  exact ⟨ρ, w, _, hE, hW, hT, fun v H1 d w1 e1 r1 W1 p1 => ⟨ρ, w1, _, hE.ext e1, W1, p1, fun vs H2 ds w2 e2 r2 W2 p2 => k _ H2 _ w2 (e1.trans e2) (.cons (r1.ext e2) r2) W2 p2⟩⟩
theorem we_callK (C : KpK X.prog X.w X.K X.mg X.base k x ps n ks F) (hr : Room k X.A) (ha : WA X (e :: es) tes) (hkw : WK X kws tk) (hg : Gl X x := by rfl) (hall : (backToKw pos (keywordEach kws X.env)).all (·.1.isSome) = true := by rfl) (hks : (backToKw pos (keywordEach kws X.env)).filterMap (·.1) = ks := by rfl)
    (hdb : (x == ("__debug__" : Str)) = false := by decide) (he : starEach (e :: es) X.env = (false, eval e X.env) :: starEach es X.env := by rfl)
    (hpl : ((backTo pos (starEach (e :: es) X.env)).any (·.1) || (backToKw pos (keywordEach kws X.env)).any (·.1.isNone)) = false := by rfl) :
    WE X (.Call (.Name x p) (e :: es) kws pos) (dCallK n ks.length ps.length F tes tk) := by
  obtain ⟨f, fd, h1, h2, h3, h4⟩ := C.ex
  refine pe_imp (pe_callN h4 hr hg h1 h2 h3 pass0 ha hkw hall hks hdb he hpl) fun σ H Q ⟨ρ, w, P, hE, hW, hT, k⟩ => ?_
  refine ⟨ρ, w, _, hE, hW, hT, fun vs H1 ds w1 e1 r1 W1 p1 => ⟨ρ, w1, _, hE.ext e1, W1, p1, fun zs H2 dz w2 e2 r2 W2 ⟨l1, l2, l3, p2⟩ => ?_⟩⟩
  refine ⟨r1.length.trans l1, r2.length.trans l2, ds ++ dz, w2, P, (r1.ext e2).append r2, W2, l3, p2, fun v H3 d w3 e3 => k v H3 d w3 (e1.trans (e2.trans e3))⟩
end
section
variable {P : Program} {w : World} {K : PySem.W.Frag} {mg : Str → Option Value} {base : Heap} {x : Str} {params : Arguments} {body : List Stmt} {scope : Scope} {f : Addr} {fd : FuncData} {N ps : List Str} {k n : Nat} {ks : List Str} {F : DSp}
theorem kbn_of (D : FunD K x x params body scope [] [] f fd)
    (hb : ∀ (kV doc pm : Value) (an : Option Addr) (cdv ct : Value) (us ws : List Value), us.length = n → ws.length = ks.length → bindArgs (PySem.W.fnOf x x params body scope .none kV doc pm an cdv ct) ⟨us, ks.zip ws⟩ = pure (ps.zip (us ++ ws))) :
    KBn K fd ps n ks (fun us ws => us ++ ws) (fun vs zs => vs ++ zs) := by
  obtain ⟨oc, od, dV, kV, doc, pm, an, cdv, ct, osl, rfl, lk, hcd, hD, hK⟩ := D.ex
  rcases hD with ⟨_, rfl⟩ | ⟨e, _⟩
  · exact ⟨fun s us ws _ l1 l2 => .of_eq (hb kV doc pm an cdv ct us ws l1 l2), fun r1 r2 => r1.append r2⟩
  · exact absurd rfl e
theorem kpk_of (D : FunD K x x params body scope [] [] f fd) (hm : mg x = some (.ref f)) (S : FnScope N ps scope)
    (hb : ∀ (kV doc pm : Value) (an : Option Addr) (cdv ct : Value) (us ws : List Value), us.length = n → ws.length = ks.length → bindArgs (PySem.W.fnOf x x params body scope .none kV doc pm an cdv ct) ⟨us, ks.zip ws⟩ = pure (ps.zip (us ++ ws)))
    (hbody : ∀ (cdv : Value) (A : Around) (outer : List Env) (s : Shared) (H : Hp) (E : XK), Room k (A.deeper (envOfC x scope s.heap.objs.size f cdv)) →
      ∃ T, WSs (cxOf CX0 P w K mg base N x scope f cdv A outer s H E).nox body T ∧ ∀ ds wd Q, ds.length = ps.length → F ds wd Q → T (endD Q) (startD N ds) wd) : KpK P w K mg base (k + 1) x ps n ks F := by
  refine ⟨f, fd, hm, D.kp, kbn_of D hb, D.ok S (fun vs H Q E ⟨ds, _, _, r, _, hl, _⟩ => r.length.trans hl) fun cdv A outer s H vs Q E hr ⟨ds, wd, PP, r, W, hl, hF, k⟩ => ?_⟩
  obtain ⟨T, h1, h2⟩ := hbody cdv A outer s H E hr
  exact ⟨_, h1.nox, startD N ds, wd, endD PP, relE_start r, W, h2 ds wd PP hl hF, sim_end k⟩
end

/-! ### a generator def that hands out ints -/
structure GDE where
  nx : List Int → DEnv → Wd → Prop
  rt : List Int → D → Wd → Prop
  bk : List Int → DEnv → Wd → Prop := fun _ _ _ => False
  ct : List Int → DEnv → Wd → Prop := fun _ _ _ => False
abbrev DG := GDE → List Int → DEnv → Wd → Prop
structure SimG (K : PySem.W.Frag) (H : Hp) (DD : GDE) (D : GEnds) : Prop where
  nx : ∀ ns σ' H' ρ' w', EXT H H' → RelE K H' σ' ρ' → RW K w' H' → DD.nx ns ρ' w' → D.nx (ns.map V.int) σ' H'
  rt : ∀ ns v H' d w', EXT H H' → Dt K H' v d → RW K w' H' → DD.rt ns d w' → D.rt (ns.map V.int) v H'
  bk : ∀ ns σ' H' ρ' w', EXT H H' → RelE K H' σ' ρ' → RW K w' H' → DD.bk ns ρ' w' → D.bk (ns.map V.int) σ' H'
  ct : ∀ ns σ' H' ρ' w', EXT H H' → RelE K H' σ' ρ' → RW K w' H' → DD.ct ns ρ' w' → D.ct (ns.map V.int) σ' H'
theorem SimG.ext {K : PySem.W.Frag} {H H' : Hp} {DD : GDE} {D : GEnds} (h : SimG K H DD D) (e : EXT H H') : SimG K H' DD D :=
  ⟨fun ns s H2 r w' e2 => h.nx ns s H2 r w' (e.trans e2), fun ns v H2 d w' e2 => h.rt ns v H2 d w' (e.trans e2), fun ns s H2 r w' e2 => h.bk ns s H2 r w' (e.trans e2), fun ns s H2 r w' e2 => h.ct ns s H2 r w' (e.trans e2)⟩
def canG (K : PySem.W.Frag) (T : DG) : TGn := fun D ys σ H => ∃ ρ w ns DD, ys = ns.map V.int ∧ RelE K H σ ρ ∧ RW K w H ∧ T DD ns ρ w ∧ SimG K H DD D
def GDE.at (D : GDE) (ns : List Int) : DEnds := { nx := D.nx ns, rt := D.rt ns, bk := D.bk ns, ct := D.ct ns }
section
variable {X : Cx} {st : Stmt} {rest body : List Stmt} {t : DS} {tg ug tb : DG} {e c : Expr} {te : DE} {tc : DT} {pos yp : Pos}
theorem gs_imp {t t' : TGn} (h : GS X st t) (i : ∀ D ys σ H, t' D ys σ H → t D ys σ H) : GS X st t' := ⟨fun A S ip R n ys s₀ c fs K J gd lv s σ H D g hn k hI ht => h.run A S ip R n ys s₀ c fs K J gd lv s σ H D g hn k hI (i D ys σ H ht)⟩
theorem gss_imp {t t' : TGn} (h : GSs X rest t) (i : ∀ D ys σ H, t' D ys σ H → t D ys σ H) : GSs X rest t' := ⟨fun A S ip R n ys s₀ c fs K J gd lv s σ H D g hn k hI ht => h.run A S ip R n ys s₀ c fs K J gd lv s σ H D g hn k hI (i D ys σ H ht)⟩
abbrev WG (X : Cx) (st : Stmt) (T : DG) : Prop := GS X st (canG X.K T)
abbrev WGs (X : Cx) (sts : List Stmt) (T : DG) : Prop := GSs X sts (canG X.K T)
def gPlain (t : DS) : DG := fun D ns ρ w => t (D.at ns) ρ w
theorem wg_plain (h : WS X st t) : WG X st (gPlain t) := by
  refine gs_imp (gs_ps h) fun D ys σ H ⟨ρ, w, ns, DD, ey, hE, hW, hT, k⟩ => ?_
  subst ey
  exact ⟨ρ, w, DD.at ns, hE, hW, hT, ⟨fun σ' H' ρ' w' => k.nx ns σ' H' ρ' w', fun v H' d w' => k.rt ns v H' d w', fun σ' H' ρ' w' => k.bk ns σ' H' ρ' w', fun σ' H' ρ' w' => k.ct ns σ' H' ρ' w'⟩⟩
def gNil0 : DG := fun D ns ρ w => D.nx ns ρ w
def gSeq (t u : DG) : DG := fun D ns ρ w => t { D with nx := fun ns' ρ' w' => u D ns' ρ' w' } ns ρ w
theorem wgs_nil : WGs X [] gNil0 := by
  refine gss_imp gss_nil fun D ys σ H ⟨ρ, w, ns, DD, ey, hE, hW, hT, k⟩ => ?_
  subst ey
  exact k.nx ns σ H ρ w (EXT.refl H) hE hW hT
theorem wgs_cons (a : WG X st tg) (b : WGs X rest ug) : WGs X (st :: rest) (gSeq tg ug) := by
  refine gss_imp (gss_cons a b) fun D ys σ H ⟨ρ, w, ns, DD, ey, hE, hW, hT, k⟩ => ?_
  exact ⟨ρ, w, ns, { DD with nx := fun ns' ρ' w' => ug DD ns' ρ' w' }, ey, hE, hW, hT, ⟨fun ns' σ' H' ρ' w' e1 E1 W1 p => ⟨ρ', w', ns', DD, rfl, E1, W1, p, k.ext e1⟩, k.rt, k.bk, k.ct⟩⟩
def gYield (te : DE) : DG := fun D ns ρ w => ns.length < sizeLine ∧ te ρ w fun d w1 => match d with
  | .int i => D.nx (ns ++ [i]) ρ w1
  | _ => False
theorem wg_yield (he : WE X e te) (hco : X.env.scope.isCoroutine = false := by rfl) (hi : interactive X.env = false := by rfl) : WG X (.Expr (.Yield (some e) yp) pos) (gYield te) := by
  refine gs_imp (gs_yield he hco hi) fun D ys σ H ⟨ρ, w, ns, DD, ey, hE, hW, ⟨hl, hT⟩, k⟩ => ?_
  subst ey
  refine ⟨by rw [List.length_map]; exact hl, ρ, w, _, hE, hW, hT, fun v H1 d w1 e1 r1 W1 p1 => ?_⟩
  cases d with
  | int i =>
    have p : DD.nx (ns ++ [i]) ρ w1 := p1
    cases r1
    have q := k.nx (ns ++ [i]) σ H1 ρ w1 e1 (hE.ext e1) W1 p
    rw [List.map_append] at q
    exact q
  | _ => exact False.elim p1
def gWhile (c : DT) (tb : DG) : DG := fun D ns ρ w => ∃ Iv : Nat → List Int → DEnv → Wd → Prop, (∃ m, Iv m ns ρ w) ∧ ∀ m ns ρ w, Iv m ns ρ w → c ρ w fun b w1 =>
  (b = true → tb { D with nx := fun ns' ρ' w' => ∃ m', m' < m ∧ Iv m' ns' ρ' w', ct := fun ns' ρ' w' => ∃ m', m' < m ∧ Iv m' ns' ρ' w', bk := D.nx } ns ρ w1) ∧ (b = false → D.nx ns ρ w1)
theorem wg_while (hp : PassesOwn (model X.prog X.w) X.A X.env X.xe) (hc : WT X c tc) (hb : WGs X body tb) : WG X (.While c body [] pos) (gWhile tc tb) := by
  refine gs_imp (gs_while hp hc hb) fun D ys σ H ⟨ρ, w, ns, DD, ey, hE, hW, ⟨Iv, ⟨m0, h0⟩, turn⟩, k⟩ => ?_
  subst ey
  refine ⟨fun m ys' σ' H' => EXT H H' ∧ ∃ ns' ρ' w', ys' = ns'.map V.int ∧ RelE X.K H' σ' ρ' ∧ RW X.K w' H' ∧ Iv m ns' ρ' w', ⟨m0, EXT.refl H, ns, ρ, w, rfl, hE, hW, h0⟩, ?_⟩
  rintro m ys1 σ1 H1 ⟨e1, ns1, ρ1, w1, rfl, E1, W1, i1⟩
  refine ⟨ρ1, w1, _, E1, W1, turn m ns1 ρ1 w1 i1, fun b H2 w2 e2 W2 p => ?_⟩
  have E2 := E1.ext e2
  cases b with
  | true =>
    refine iteT ⟨fun ys' σ' H' => ∃ m', m' < m ∧ EXT H H' ∧ ∃ ns' ρ' w', ys' = ns'.map V.int ∧ RelE X.K H' σ' ρ' ∧ RW X.K w' H' ∧ Iv m' ns' ρ' w', fun ys' σ' H' ⟨m', hm, z⟩ => ⟨m', hm, z⟩, ρ1, w2, ns1, _, rfl, E2, W2, p.1 rfl, ⟨?_, ?_, ?_, ?_⟩⟩
    · exact fun ns3 σ3 H3 ρ3 w3 e3 E3 W3 ⟨m', hm, q⟩ => ⟨m', hm, e1.trans (e2.trans e3), ns3, ρ3, w3, rfl, E3, W3, q⟩
    · exact fun ns3 v H3 d w3 e3 r3 W3 q => k.rt ns3 v H3 d w3 (e1.trans (e2.trans e3)) r3 W3 q
    · exact fun ns3 σ3 H3 ρ3 w3 e3 E3 W3 q => k.nx ns3 σ3 H3 ρ3 w3 (e1.trans (e2.trans e3)) E3 W3 q
    · exact fun ns3 σ3 H3 ρ3 w3 e3 E3 W3 ⟨m', hm, q⟩ => ⟨m', hm, e1.trans (e2.trans e3), ns3, ρ3, w3, rfl, E3, W3, q⟩
  | false => exact iteF (k.nx ns1 σ1 H2 ρ1 w2 (e1.trans e2) E2 W2 (p.2 rfl))
end
/-- its promise: the ints that it hands out -/
abbrev DGp := List D → Wd → (List Int → Wd → Prop) → Prop
def spGD (K : PySem.W.Frag) (n : Nat) (F : DGp) : SpG := fun vs H Q _ => ∃ ds w P, Dts K H vs ds ∧ RW K w H ∧ ds.length = n ∧ F ds w P ∧ ∀ ns H' w', EXT H H' → RW K w' H' → P ns w' → Q (ns.map V.int) H'
structure KpG (P : Program) (w : World) (K : PySem.W.Frag) (mg : Str → Option Value) (base : Heap) (k : Nat) (x : Str) (ps : List Str) (n : Nat) (ks : List Str) (F : DGp) : Prop where
  ex : ∃ (f : Addr) (fd : FuncData), mg x = some (.ref f) ∧ PySem.W.keepIn K (.ref f) = true ∧ KBn K fd ps n ks (fun us ws => us ++ ws) (fun vs zs => vs ++ zs) ∧ GFn P w K mg base k f fd ps (spGD K ps.length F)
def endG (P : List Int → Wd → Prop) : GDE := { nx := fun ns _ w => P ns w, rt := fun ns d w => d = .non ∧ P ns w }
theorem sim_endG {K : PySem.W.Frag} {H : Hp} {P : List Int → Wd → Prop} {Q : List V → Hp → Prop} (k : ∀ ns H' w', EXT H H' → RW K w' H' → P ns w' → Q (ns.map V.int) H') : SimG K H (endG P) { nx := fun ys _ H' => Q ys H', rt := fun ys v H' => v = .non ∧ Q ys H' } :=
  ⟨fun ns _ H' _ w' e _ W p => k ns H' w' e W p, fun ns v H' d w' e r W ⟨hd, p⟩ => ⟨by subst hd; cases r; rfl, k ns H' w' e W p⟩, fun _ _ _ _ _ _ _ _ z => z.elim, fun _ _ _ _ _ _ _ _ z => z.elim⟩
section
variable {P : Program} {w : World} {K : PySem.W.Frag} {mg : Str → Option Value} {base : Heap} {x : Str} {params : Arguments} {body : List Stmt} {scope : Scope} {f : Addr} {fd : FuncData} {N ps : List Str} {k n : Nat} {ks : List Str} {F : DGp}
theorem kpg_of (D : FunD K x x params body scope [] [] f fd) (hm : mg x = some (.ref f)) (S : GScope N ps scope)
    (hb : ∀ (kV doc pm : Value) (an : Option Addr) (cdv ct : Value) (us ws : List Value), us.length = n → ws.length = ks.length → bindArgs (PySem.W.fnOf x x params body scope .none kV doc pm an cdv ct) ⟨us, ks.zip ws⟩ = pure (ps.zip (us ++ ws)))
    (hbody : ∀ (cdv : Value) (A : Around) (outer : List Env) (s : Shared) (H : Hp) (E : XK) (pn : List (Addr × Obj)), Room k (A.deeper (envOfC x scope s.heap.objs.size f cdv)) →
      ∃ T, WGs (gcxOf P w K mg base N x scope f cdv A outer s H E pn) body T ∧ ∀ ds wd Q, ds.length = ps.length → F ds wd Q → T (endG Q) [] (startD N ds) wd) : KpG P w K mg base (k + 1) x ps n ks F := by
  have hkb := kbn_of D hb
  obtain ⟨oc, od, dV, kV, doc, pm, an, cdv, ct, osl, rfl, lk, hcd, hD, hK⟩ := D.ex
  refine ⟨f, _, hm, D.kp, hkb, gfn_of lk hcd S (fun vs H Q E ⟨ds, _, _, r, _, hl, _⟩ => r.length.trans hl) fun A outer s H vs Q E pn hr ⟨ds, wd, PP, r, W, hl, hF, k⟩ => ?_⟩
  obtain ⟨T, h1, h2⟩ := hbody cdv A outer s H E pn hr
  exact ⟨_, h1, startD N ds, wd, [], endG PP, rfl, relE_start r, W, h2 ds wd PP hl hF, sim_endG k⟩
end
/-- list(g(a, b, k = c)) -/
def dListG (n m l : Nat) (F : DGp) (t tk : DA) : DE := fun ρ w P => t ρ w fun ds w1 => tk ρ w1 fun zs w2 => ds.length = n ∧ zs.length = m ∧ (ds ++ zs).length = l ∧ F (ds ++ zs) w2 fun ns w3 => ∀ p, w3 p = none → P (.ref p) (updW w3 p (.lst (ns.map D.int)))
section
variable {X : Cx} {x : Str} {p p2 pos cpos : Pos} {e : Expr} {es : List Expr} {tes tk : DA} {k n : Nat} {ps ks : List Str} {F : DGp} {kws : List Keyword}
theorem pgen_callN {f : Addr} {fd : FuncData} {sp : SpG} {t tk : TA} {g : List Value → List Value → List Value} {gV : List V → List V → List V} {E : XK} (G : GFn X.prog X.w X.K X.mg X.base k f fd ps sp) (hr : Room k X.A) (hg : Gl X x) (hm : X.mg x = some (.ref f)) (hk : PySem.W.keepIn X.K (.ref f) = true) (hb : KBn X.K fd ps n ks g gV)
    (ha : PA X (e :: es) t) (hkw : PK X kws tk) (hall : (backToKw pos (keywordEach kws X.env)).all (·.1.isSome) = true) (hks : (backToKw pos (keywordEach kws X.env)).filterMap (·.1) = ks)
    (hdb : (x == ("__debug__" : Str)) = false) (he : starEach (e :: es) X.env = (false, eval e X.env) :: starEach es X.env)
    (hpl : ((backTo pos (starEach (e :: es) X.env)).any (·.1) || (backToKw pos (keywordEach kws X.env)).any (·.1.isNone)) = false) :
    PGen X k (.Call (.Name x p) (e :: es) kws pos) (fun σ H cont => t σ H fun vs H1 => tk σ H1 fun zs H2 => vs.length = n ∧ zs.length = ks.length ∧ sp (gV vs zs) H2 cont E) E := by
  refine ⟨fun pins s σ H cont I h => ?_⟩
  refine wpAny_Call_Name_kw (ld_glob I hg hm ?_ hdb)
  refine PySem.W.callWith_KW (h₀ := X.base) I.ok.mod.kin hk hall (thn (ha.run pos pins s σ H _ I h) fun us s1 ⟨vs, H1, I1, r, q⟩ => ?_) hpl he
  refine thn (hkw.run pos pins s1 σ H1 _ I1 q) fun ws s2 ⟨zs, H2, I2, rz, l1, l2, q2⟩ => ⟨I2.kIn, ?_⟩
  rw [hks]
  have r2 := hb.rel r rz
  refine wpAny_call (codeAny_mono (G.run X.A X.stack s2 H2 ⟨us, ks.zip ws⟩ (g us ws) (gV vs zs) cont E hr I2.env0 (hb.to s2 us ws I2.kIn (r.length.symm.trans l1) (rz.length.symm.trans l2)) r2 q2) fun r s' hq => ?_)
  cases r with
  | error e => exact False.elim hq
  | ok fl =>
    cases fl with
    | ret u => exact ⟨H2, s2, [], I2, .nil, hq⟩
    | next => exact False.elim hq
    | brk => exact False.elim hq
    | cont => exact False.elim hq
theorem we_listG (C : KpG X.prog X.w X.K X.mg X.base k x ps n ks F) (hr : Room (k + 3) X.A) (hml : X.mg "list" = none) (ha : WA X (e :: es) tes) (hkw : WK X kws tk) (hg : Gl X x := by rfl) (hgl : Gl X "list" := by rfl) (hall : (backToKw pos (keywordEach kws X.env)).all (·.1.isSome) = true := by rfl) (hks : (backToKw pos (keywordEach kws X.env)).filterMap (·.1) = ks := by rfl)
    (hdb : (x == ("__debug__" : Str)) = false := by decide) (he : starEach (e :: es) X.env = (false, eval e X.env) :: starEach es X.env := by rfl)
    (hpl : ((backTo pos (starEach (e :: es) X.env)).any (·.1) || (backToKw pos (keywordEach kws X.env)).any (·.1.isNone)) = false := by rfl)
    (he2 : starEach [.Call (.Name x p) (e :: es) kws pos] X.env = (false, eval (.Call (.Name x p) (e :: es) kws pos) X.env) :: starEach [] X.env := by rfl) :
    WE X (.Call (.Name "list" p2) [.Call (.Name x p) (e :: es) kws pos] [] cpos) (dListG n ks.length ps.length F tes tk) := by
  obtain ⟨f, fd, h1, h2, h3, h4⟩ := C.ex
  have hrk : Room k X.A := hr.mono (by omega)
  refine pe_imp (pe_listG (E := E0) (pgen_callN h4 hrk hg h1 h2 h3 ha hkw hall hks hdb he hpl) passL (fun _ _ _ z => z.elim) hr hgl hml (by decide +kernel) (by decide) (by decide) he2) fun σ H Q ⟨ρ, w, P, hE, hW, hT, k⟩ => ?_
  refine ⟨ρ, w, _, hE, hW, hT, fun vs H1 ds w1 e1 r1 W1 p1 => ⟨ρ, w1, _, hE.ext e1, W1, p1, fun zs H2 dz w2 e2 r2 W2 ⟨l1, l2, l3, p2⟩ => ?_⟩⟩
  refine ⟨r1.length.trans l1, r2.length.trans l2, ds ++ dz, w2, _, (r1.ext e2).append r2, W2, l3, p2, fun ns H3 w3 e3 W3 p3 q hq => ?_⟩
  exact k _ _ _ _ (e1.trans (e2.trans (e3.trans (EXT.new hq)))) (.ref q) (W3.newL hq (Dts.ints ns)) (p3 q (W3.fresh hq))
end
end Rs
set_option maxHeartbeats 4000000
/-! The text by places; what the top leaves. -/
namespace Rs
open PySem PySem.Spec PyProof.Rows L2
def top (i : Nat) : Stmt := PySem.Challenge.pw_restitch_k97_whole_runs_of_the_machine.main.body.getD i (.Pass ⟨0, 0, 0, 0⟩)
def dD (i : Nat) (n : Str) : He.DefD := ⟨(n, none), n, n, defArgs (top i), defBody (top i), defScope (top i), [], []⟩

def fnL_0 : List (Nat × Str) := [(8, "encode"), (9, "signed_field"), (10, "fields"), (11, "decode"), (13, "find_segment"), (14, "can_load"), (15, "can_store"), (16, "can_fetch"), (17, "load_word"), (18, "store_word"), (19, "first_memory"), (20, "word_at"), (22, "signed"), (23, "compute"), (24, "compute_rest"), (25, "holds"), (26, "start"), (27, "with_register"), (28, "size_of"), (29, "loaded")]
def fnL_1 : List (Nat × Str) := [(30, "access"), (31, "plain_step"), (32, "jump_step"), (33, "step"), (34, "last_state"), (35, "run"), (36, "trace"), (38, "_law_draw"), (39, "_law_take"), (40, "_law_ops"), (41, "_law_word"), (42, "_law_bytes"), (43, "_law_label"), (44, "_law_here"), (45, "_law_put_word"), (46, "_law_some"), (47, "_law_register"), (48, "_law_set"), (49, "_law_alu"), (50, "_law_memory")]
def fnL_2 : List (Nat × Str) := [(51, "_law_if"), (52, "_law_loop"), (53, "_law_call"), (54, "_law_switch"), (55, "_law_rows"), (56, "_law_odd"), (57, "_law_code_words"), (58, "_law_values"), (59, "_law_image"), (60, "_law_signed"), (61, "_law_result"), (62, "_law_holds"), (63, "_law_home"), (64, "_law_read"), (65, "_law_fetch"), (66, "_law_begin"), (67, "_law_give"), (68, "_law_touch"), (69, "_law_plain"), (70, "_law_step")]
def fnL_3 : List (Nat × Str) := [(71, "_law_state"), (72, "law")]
def fnL : List (Nat × Str) := fnL_0 ++ (fnL_1 ++ (fnL_2 ++ (fnL_3)))
def fn : List He.DefD := fnL.map fun q => dD q.1 q.2
def freeL : List Str := ["len", "range", "tuple", "list", "int", "abs", "min", "isinstance"]
def cALU_0 : List Str := ["add", "sub", "mul", "and", "or", "xor", "shl", "shr", "sar", "slt", "sltu", "divu", "remu"]
def cALU : List Str := cALU_0
def cIMMEDIATE_0 : List Str := ["addi", "andi", "ori", "xori", "shli", "shri", "sari", "slti"]
def cIMMEDIATE : List Str := cIMMEDIATE_0
def cLOADS_0 : List Str := ["lw", "lb", "lbu"]
def cLOADS : List Str := cLOADS_0
def cSTORES_0 : List Str := ["sw", "sb"]
def cSTORES : List Str := cSTORES_0
def cBRANCHES_0 : List Str := ["beq", "bne", "blt", "bge", "bltu", "bgeu"]
def cBRANCHES : List Str := cBRANCHES_0
def cOPS_0 : List Str := ["add", "sub", "mul", "and", "or", "xor", "shl", "shr", "sar", "slt", "sltu", "divu", "remu", "addi", "andi", "ori", "xori", "shli", "shri", "sari"]
def cOPS_1 : List Str := ["slti", "lui", "lw", "lb", "lbu", "sw", "sb", "beq", "bne", "blt", "bge", "bltu", "bgeu", "jal", "jalr", "get", "put", "exit"]
def cOPS : List Str := cOPS_0 ++ (cOPS_1)
def tt : List (Str × List Str) := [("ALU", cALU), ("IMMEDIATE", cIMMEDIATE), ("LOADS", cLOADS), ("STORES", cSTORES), ("BRANCHES", cBRANCHES), ("OPS", cOPS)]
def fa : List He.Fa := (fnL.map fun q => .glo q.2) ++ ((tt.map fun q => .glo q.1) ++ (.int "WORD" 4294967296 :: freeL.map .free))
/-- a def as it stands behind the top -/
def Has (K : PySem.W.Frag) (mg : Str → Option Value) (i : Nat) (x : Str) : Prop := ∃ f fd, mg x = some (.ref f) ∧ FunD K x x (defArgs (top i)) (defBody (top i)) (defScope (top i)) [] [] f fd
/-- a tuple of texts -/
def HasT (K : PySem.W.Frag) (mg : Str → Option Value) (x : Str) (ss : List Str) : Prop := ∃ q, mg x = some (.ref q) ∧ (∀ H, SqT K H q (ss.map V.str)) ∧ ∃ o, K.lookup q = some o ∧ o.cls = .type "tuple" ∧ o.dict = none
structure Tx (K : PySem.W.Frag) (mg : Str → Option Value) : Prop where
  has : ∀ (j : Nat) {i : Nat} {x : Str}, fnL[j]? = some (i, x) → Has K mg i x
  fre : ∀ (j : Nat) {x : Str}, freeL[j]? = some x → mg x = none
  word : ∃ t, mg "WORD" = some (.int 4294967296 t)
  tup : ∀ (j : Nat) {x : Str} {ss : List Str}, tt[j]? = some (x, ss) → HasT K mg x ss
def tupB2 (K : PySem.W.Frag) (x : Str) (vs : List He.Dv) : Bool := match K.lookup (He.ga K x) with
  | some ⟨.type c, none, .seq its _, _⟩ => decide (c = "tuple") && (decide (its.size ≤ sizeLine) && He.relAll (vs.map (He.Dv.v K)) its.toList)
  | _ => false
theorem tupB2_ok {K : PySem.W.Frag} {x : Str} {ss : List Str} (h : tupB2 K x (ss.map He.Dv.str) = true) : (∀ H, SqT K H (He.ga K x) (ss.map V.str)) ∧ ∃ o, K.lookup (He.ga K x) = some o ∧ o.cls = .type "tuple" ∧ o.dict = none := by
  unfold tupB2 at h
  cases q : K.lookup (He.ga K x) with
  | none =>
    rw [q] at h
    cases h
  | some o =>
    obtain ⟨oc, od, dt, osl⟩ := o
    rw [q] at h
    cases oc with
    | type c =>
      cases od with
      | none =>
        cases dt with
        | seq its n =>
          obtain ⟨h1, h2⟩ := He.ba (show (decide (c = "tuple") && (decide (its.size ≤ sizeLine) && He.relAll ((ss.map He.Dv.str).map (He.Dv.v K)) its.toList)) = true from h)
          obtain ⟨h3, h4⟩ := He.ba h2
          have e : (ss.map He.Dv.str).map (He.Dv.v K) = ss.map V.str := by rw [List.map_map]; rfl
          rw [e] at h4
          have ec : c = "tuple" := of_decide_eq_true h1
          exact ⟨fun H => .inr ⟨_, its, n, q, congrArg Value.type ec, rfl, of_decide_eq_true h3, He.relAll_ok h4⟩, _, rfl, congrArg Value.type ec, rfl⟩
        | _ => cases h
      | some a => cases dt <;> cases h
    | _ => cases od <;> cases dt <;> cases h
def tupsB (K : PySem.W.Frag) : Bool := tt.all fun q => tupB2 K q.1 (q.2.map He.Dv.str)
def SaysR (K : PySem.W.Frag) : Prop := He.SaysD fa fn K ∧ tupsB K = true
theorem facts_all {fa : List He.Fa} {fn : List He.DefD} {K : PySem.W.Frag} (c : He.SaysD fa fn K) {f : He.Fa} (h : f ∈ fa) : f.ok K = true := by
  obtain ⟨i, hi, e⟩ := List.mem_iff_getElem.mp h
  exact c.fact i (f := f) (by rw [List.getElem?_eq_getElem hi, e])
theorem tx_of {K : PySem.W.Frag} {h : Heap} {mg : Str → Option Value} (X : K.In h) (G : h.Ns mainGlobals mg) (c : SaysR K) : Tx K mg where
  has := fun j i x e => by
    have e2 : fn[j]? = some (dD i x) := by
      unfold fn
      rw [List.getElem?_map, e]
      rfl
    obtain ⟨fd, F⟩ := c.1.def_ j e2
    have hm : He.Fa.glo x ∈ fa := List.mem_append_left _ (List.mem_map.mpr ⟨(i, x), List.mem_of_getElem? e, rfl⟩)
    exact ⟨He.ga K x, fd, He.glo_ok X G (facts_all c.1 hm), F⟩
  fre := fun j x e => He.free_ok X G (facts_all c.1 (List.mem_append_right _ (List.mem_append_right _ (List.mem_cons_of_mem _ (List.mem_map.mpr ⟨x, List.mem_of_getElem? e, rfl⟩)))))
  word := He.int_ok X G (facts_all c.1 (List.mem_append_right _ (List.mem_append_right _ List.mem_cons_self)))
  tup := fun j x ss e => by
    have hm : He.Fa.glo x ∈ fa := List.mem_append_right _ (List.mem_append_left _ (List.mem_map.mpr ⟨(x, ss), List.mem_of_getElem? e, rfl⟩))
    obtain ⟨h1, h2⟩ := tupB2_ok (List.all_eq_true.mp c.2 (x, ss) (List.mem_of_getElem? e))
    exact ⟨_, He.glo_ok X G (facts_all c.1 hm), h1, h2⟩
end Rs
set_option maxHeartbeats 4000000
/-! The machine as plain functions. -/
namespace Rs
open PySem PySem.Spec PyProof.Rows L2


def opS (k : Nat) : Str := cOPS.getD k ""
/-- an instruction: the place of its op, its numbers -/
structure Ins where
  k : Nat
  a : Int
  b : Int
  c : Int
def insL (i : Ins) : List D := if 35 ≤ i.k then [.str (opS i.k), .int i.a] else if i.k = 21 ∨ i.k = 33 then [.str (opS i.k), .int i.a, .int i.b] else [.str (opS i.k), .int i.a, .int i.b, .int i.c]
def insD (i : Ins) : D := .tup (insL i)
def sgn (v : Int) (b : Nat) : Int := if 2 ^ (b - 1) ≤ v then v - 2 ^ b else v
def encM (i : Ins) : Int := ((i.k : Int) + 1) * 67108864 + i.a * 4194304 + (if 35 ≤ i.k then 0 else if i.k = 21 ∨ i.k = 33 then i.b % 262144 else i.b * 262144 + (if i.k < 13 then i.c * 16384 else i.c % 16384))
def fieldK (w : Int) : Nat := (w / 67108864).toNat - 1
def fieldI (w : Int) : Ins := if 35 ≤ fieldK w then ⟨fieldK w, w / 4194304 % 16, 0, 0⟩ else if fieldK w = 21 then ⟨fieldK w, w / 4194304 % 16, w % 262144, 0⟩ else if fieldK w = 33 then ⟨fieldK w, w / 4194304 % 16, sgn (w % 262144) 18, 0⟩
  else if fieldK w < 13 then ⟨fieldK w, w / 4194304 % 16, w / 262144 % 16, w / 16384 % 16⟩ else ⟨fieldK w, w / 4194304 % 16, w / 262144 % 16, sgn (w % 16384) 14⟩
def fieldsM (w : Int) : Option Ins := if 1 ≤ w / 67108864 ∧ w / 67108864 ≤ 38 then some (fieldI w) else none
def decM (w : Int) : Option Ins := (fieldsM w).bind fun i => if encM i = w then some i else none
def optD : Option Ins → D
  | some i => insD i
  | none => .non
structure InsOk (i : Ins) : Prop where
  hk : i.k < 38
  a0 : 0 ≤ i.a
  a1 : i.a < 16
  b0 : -262144 ≤ i.b
  b1 : i.b < 262144
  br : ¬ (i.k = 21 ∨ i.k = 33) → 0 ≤ i.b ∧ i.b < 16
  bl : i.k = 21 → 0 ≤ i.b
  c0 : -16384 ≤ i.c
  c1 : i.c < 16384
  cr : i.k < 13 → 0 ≤ i.c ∧ i.c < 16
theorem fieldK_fieldI (w : Int) : (fieldI w).k = fieldK w := by
  unfold fieldI
  repeat (first | rfl | split)
theorem fieldsM_ok {w : Int} {i : Ins} (h0 : 0 ≤ w) (h : fieldsM w = some i) : InsOk i := by
  unfold fieldsM at h
  split at h
  · rename_i hr
    cases h
    have hk : fieldK w < 38 := by unfold fieldK; omega
    have e18 : ∀ v, sgn v 18 = if 131072 ≤ v then v - 262144 else v := fun v => rfl
    have e14 : ∀ v, sgn v 14 = if 8192 ≤ v then v - 16384 else v := fun v => rfl
    refine ⟨by rw [fieldK_fieldI]; exact hk, ?_, ?_, ?_, ?_, fun hn => ?_, fun he => ?_, ?_, ?_, fun hc => ?_⟩
    all_goals (try rw [fieldK_fieldI] at *)
    all_goals (unfold fieldI)
    all_goals (simp only [e18, e14])
    all_goals (repeat' split) <;> (try simp only) <;> omega
  · cases h
theorem decM_ok {w : Int} {i : Ins} (h0 : 0 ≤ w) (h : decM w = some i) : InsOk i := by
  unfold decM at h
  cases q : fieldsM w with
  | none => rw [q] at h; cases h
  | some j =>
    rw [q] at h
    have h2 : (if encM j = w then some j else none) = some i := h
    split at h2
    · cases h2
      exact fieldsM_ok h0 q
    · cases h2

/-! ### arithmetic of words -/
def sgn32 (x : Int) : Int := if 2147483648 ≤ x then x - 4294967296 else x
def sh (y : Int) : Nat := (y % 32).toNat
def alu (k : Nat) (x y : Int) : Int :=
  if k = 0 then (x + y) % 4294967296 else if k = 1 then (x - y) % 4294967296 else if k = 2 then (x * y) % 4294967296 else if k = 3 then Builtin.bitAnd x y else if k = 4 then Builtin.bitOr x y else if k = 5 then Builtin.bitXor x y
  else if k = 6 then (x * 2 ^ sh y) % 4294967296 else if k = 7 then x / 2 ^ sh y else if k = 8 then (sgn32 x / 2 ^ sh y) % 4294967296 else if k = 9 then (if sgn32 x < sgn32 y then 1 else 0) else if k = 10 then (if x < y then 1 else 0)
  else if k = 11 then (if y = 0 then 4294967296 - 1 else x / y) else (if y = 0 then x else x - x / y * y)
/-- addi is add, andi and .. -/
def aluB (k : Nat) : Nat := if k < 13 then k else if k = 13 then 0 else k - 11
def holdsM (k : Nat) (x y : Int) : Bool :=
  if k = 27 then decide (x = y) else if k = 28 then !decide (x = y) else if k = 29 then decide (sgn32 x < sgn32 y) else if k = 30 then decide (sgn32 y ≤ sgn32 x) else if k = 31 then decide (x < y) else decide (y ≤ x)

/-! ### images, memory -/
structure Seg where
  base : Int
  vals : List Int
  wr : Bool
  ex : Bool
structure Img where
  segs : List Seg
  entry : Int
  sym : D
def intsD (ns : List Int) : D := .tup (ns.map D.int)
def segD (s : Seg) : D := .tup [.int s.base, intsD s.vals, .bl s.wr, .bl s.ex]
def imgD (I : Img) : D := .tup [.tup (I.segs.map segD), .int I.entry, I.sym]
def memD (m : List (List Int)) : D := .tup (m.map intsD)
def inSeg (a c : Int) (s : Seg) : Bool := decide (s.base ≤ a ∧ a + c ≤ s.base + s.vals.length)
def homeM (segs : List Seg) (a c : Int) : Option Nat := segs.findIdx? (inSeg a c)
def optI : Option Nat → Int
  | some k => (k : Nat)
  | none => -1
/-- n bytes from place p on, lowest first -/
def rdM (row : List Int) (p : Nat) : Nat → Int
  | 0 => 0
  | n + 1 => rdM row p n + row.getD (p + n) 0 * 2 ^ (8 * n)
def bytesM (v : Int) (n : Nat) : List Int := (List.range n).map fun j => v / 2 ^ (8 * j) % 256
def wrM (row : List Int) (p n : Nat) (v : Int) : List Int := row.take p ++ bytesM v n ++ row.drop (p + n)
def segOf (I : Img) (k : Nat) : Seg := I.segs.getD k ⟨0, [], false, false⟩
def loadOk (I : Img) (a c : Int) : Option Nat := if c = 1 ∨ a % 4 = 0 then homeM I.segs a c else none
def storeOk (I : Img) (a c : Int) : Option Nat := (loadOk I a c).bind fun k => if (segOf I k).wr = true then some k else none
def fetchM (I : Img) (pc : Int) : Option Int := (loadOk I pc 4).bind fun k => if (segOf I k).ex = true then some (rdM (segOf I k).vals (pc - (segOf I k).base).toNat 4) else none

/-! ### states, steps -/
inductive Tw where
  | load | store | fetch | illegal
def Tw.s : Tw → Str
  | .load => "load"
  | .store => "store"
  | .fetch => "fetch"
  | .illegal => "illegal"
inductive En where
  | none | exit (c : Int) | trap (w : Tw) (a : Int)
def enD : En → D
  | .none => .tup [.str "none"]
  | .exit c => .tup [.str "exit", .int c]
  | .trap w a => .tup [.str "trap", .str w.s, .int a]
structure MS where
  regs : List Int
  pc : Int
  mem : List (List Int)
  taken : Nat
  out : List Int
  en : En
def msD (s : MS) : D := .tup [intsD s.regs, .int s.pc, memD s.mem, .int (s.taken : Nat), intsD s.out, enD s.en]
def reg (s : MS) (a : Int) : Int := s.regs.getD a.toNat 0
def setR (regs : List Int) (n v : Int) : List Int := if n = 0 then regs else regs.set n.toNat v
def sizeM (k : Nat) : Nat := if k = 22 ∨ k = 25 then 4 else 1
def loadV (k : Nat) (v : Int) : Int := if k = 23 ∧ 128 ≤ v then v + 4294967040 else v
/-- an instruction without a jump: a trap's word, or the state behind it (its pc as before) -/
def plainM (I : Img) (data : List Int) (s : MS) (i : Ins) : Tw ⊕ MS :=
  if i.k = 22 ∨ i.k = 23 ∨ i.k = 24 then (match loadOk I ((reg s i.b + i.c) % 4294967296) (sizeM i.k) with
    | some k => .inr { s with regs := setR s.regs i.a (loadV i.k (rdM (s.mem.getD k []) ((reg s i.b + i.c) % 4294967296 - (segOf I k).base).toNat (sizeM i.k))) }
    | none => .inl .load)
  else if i.k = 25 ∨ i.k = 26 then (match storeOk I ((reg s i.b + i.c) % 4294967296) (sizeM i.k) with
    | some k => .inr { s with mem := s.mem.set k (wrM (s.mem.getD k []) ((reg s i.b + i.c) % 4294967296 - (segOf I k).base).toNat (sizeM i.k) (reg s i.a)) }
    | none => .inl .store)
  else if i.k = 35 then .inr { s with regs := setR s.regs i.a (data.getD s.taken (4294967296 - 1)), taken := min (s.taken + 1) data.length }
  else if i.k = 36 then .inr { s with out := s.out ++ [reg s i.a % 256] }
  else if i.k = 21 then .inr { s with regs := setR s.regs i.a (i.b * 16384) }
  else if i.k < 13 then .inr { s with regs := setR s.regs i.a (alu i.k (reg s i.b) (reg s i.c)) }
  else .inr { s with regs := setR s.regs i.a (alu (aluB i.k) (reg s i.b) (i.c % 4294967296)) }
def jumpM (s : MS) (i : Ins) : MS :=
  if i.k = 37 then { s with en := .exit (reg s i.a % 256) }
  else if i.k = 33 then { s with regs := setR s.regs i.a ((s.pc + 4) % 4294967296), pc := (s.pc + 4 * i.b) % 4294967296 }
  else if i.k = 34 then { s with regs := setR s.regs i.a ((s.pc + 4) % 4294967296), pc := (reg s i.b + i.c) % 4294967296 }
  else { s with pc := (if holdsM i.k (reg s i.a) (reg s i.b) = true then s.pc + 4 * i.c else s.pc + 4) % 4294967296 }
def isJump (k : Nat) : Bool := decide (27 ≤ k ∧ k ≤ 34 ∨ k = 37)
def execM (I : Img) (data : List Int) (s : MS) (i : Ins) : MS :=
  if isJump i.k = true then jumpM s i else match plainM I data s i with
    | .inl t => { s with en := .trap t s.pc }
    | .inr s' => { s' with pc := (s.pc + 4) % 4294967296 }
def stepM (I : Img) (data : List Int) (s : MS) : MS := match s.en with
  | .none => (match fetchM I s.pc with
    | none => { s with en := .trap .fetch s.pc }
    | some w => match decM w with
      | none => { s with en := .trap .illegal s.pc }
      | some i => execM I data s i)
  | _ => s
def startM (I : Img) : MS := ⟨List.replicate 16 0, I.entry, I.segs.map (·.vals), 0, [], .none⟩

/-! ### what stays true -/
def Word (x : Int) : Prop := 0 ≤ x ∧ x < 4294967296
def Byte (x : Int) : Prop := 0 ≤ x ∧ x < 256
structure SegOk (s : Seg) : Prop where
  b0 : 0 ≤ s.base
  bs : ∀ x ∈ s.vals, Byte x
structure ImgOk (I : Img) : Prop where
  segs : ∀ s ∈ I.segs, SegOk s
  entry : Word I.entry
  ns : I.segs.length ≤ 1000
  nv : ∀ s ∈ I.segs, s.vals.length ≤ 1000000
structure MsOk (I : Img) (data : List Int) (s : MS) : Prop where
  len : s.regs.length = 16
  rw : ∀ x ∈ s.regs, Word x
  pc : Word s.pc
  ml : s.mem.length = I.segs.length
  mr : ∀ (k : Nat) row, s.mem[k]? = some row → row.length = (segOf I k).vals.length
  mb : ∀ row ∈ s.mem, ∀ x ∈ row, Byte x
  tk : s.taken ≤ data.length
end Rs
set_option maxHeartbeats 4000000
/-! The program's defs: codes. -/
namespace Rs
open PySem PySem.Spec PyProof.Rows L2
theorem le_w {w : Wd} {Q : D → Wd → Prop} {d : D} (h : Q d w) : ∃ w', LE w' w ∧ Q d w' := ⟨w, LE.refl w, h⟩
theorem qi {Q : D → Wd → Prop} {a b : Int} {w : Wd} (h : Q (.int a) w) (e : b = a) : Q (.int b) w := e ▸ h
theorem qb {Q : D → Wd → Prop} {a b : Bool} {w : Wd} (h : Q (.bl a) w) (e : b = a) : Q (.bl b) w := e ▸ h
theorem sz {n : Nat} (h : Nat.ble n 1000 = true) : n ≤ sizeLine := Nat.le_trans (Nat.le_of_ble_eq_true h) (by decide)
theorem p14 : (2 : Int) ^ (14 : Int).toNat = 16384 := rfl
theorem p18 : (2 : Int) ^ (18 : Int).toNat = 262144 := rfl
theorem p22 : (2 : Int) ^ (22 : Int).toNat = 4194304 := rfl
theorem p26 : (2 : Int) ^ (26 : Int).toNat = 67108864 := rfl
theorem p31 : (2 : Int) ^ (31 : Int).toNat = 2147483648 := rfl
theorem m4 (x : Int) : Builtin.bitAnd x 15 = x % 16 := PySem.W.kbt_mask x 4
theorem m14 (x : Int) : Builtin.bitAnd x 16383 = x % 16384 := PySem.W.kbt_mask x 14
theorem m18 (x : Int) : Builtin.bitAnd x 262143 = x % 262144 := PySem.W.kbt_mask x 18
theorem m32 (x : Int) : Builtin.bitAnd x 4294967295 = x % 4294967296 := PySem.W.kbt_mask x 32
theorem m8 (x : Int) : Builtin.bitAnd x 255 = x % 256 := PySem.W.kbt_mask x 8
theorem m2 (x : Int) : Builtin.bitAnd x 3 = x % 4 := PySem.W.kbt_mask x 2
theorem m5 (x : Int) : Builtin.bitAnd x 31 = x % 32 := PySem.W.kbt_mask x 5
theorem cpow {i j : Int} (h0 : 0 ≤ j) (h1 : j ≤ 1000) (h2 : -1000000000000000000 ≤ i) (h3 : i ≤ 1000000000000000000) : CPow i j := ⟨h0, by omega, by omega⟩

/-! ### the ops by their places -/
theorem ops_at : ∀ k, k < 38 → cOPS[k]? = some (opS k) := by decide +kernel
theorem ops_first : ∀ k, k < 38 → ∀ m, m < k → cOPS[m]? ≠ some (opS k) := by decide +kernel
theorem in_gpe : ∀ k, k < 38 → inS (opS k) [.str "get", .str "put", .str "exit"] = decide (35 ≤ k) := by decide +kernel
theorem in_lj : ∀ k, k < 38 → inS (opS k) [.str "lui", .str "jal"] = decide (k = 21 ∨ k = 33) := by decide +kernel
theorem in_ALU : ∀ k, k < 38 → inS (opS k) (cALU.map D.str) = decide (k < 13) := by decide +kernel
theorem in_IMM : ∀ k, k < 38 → inS (opS k) (cIMMEDIATE.map D.str) = decide (13 ≤ k ∧ k < 21) := by decide +kernel
theorem in_LOADS : ∀ k, k < 38 → inS (opS k) (cLOADS.map D.str) = decide (k = 22 ∨ k = 23 ∨ k = 24) := by decide +kernel
theorem in_STORES : ∀ k, k < 38 → inS (opS k) (cSTORES.map D.str) = decide (k = 25 ∨ k = 26) := by decide +kernel
theorem in_BRANCHES : ∀ k, k < 38 → inS (opS k) (cBRANCHES.map D.str) = decide (27 ≤ k ∧ k ≤ 32) := by decide +kernel
theorem in_jje : ∀ k, k < 38 → inS (opS k) [.str "jal", .str "jalr", .str "exit"] = decide (k = 33 ∨ k = 34 ∨ k = 37) := by decide +kernel
theorem in_ws : ∀ k, k < 38 → inS (opS k) [.str "lw", .str "sw"] = decide (k = 22 ∨ k = 25) := by decide +kernel
theorem op_eq_at : ∀ k, k < 38 → ∀ j, j < 38 → decide (opS k = opS j) = decide (k = j) := by decide +kernel
theorem insL_1 {i : Ins} (h : 35 ≤ i.k) : insL i = [.str (opS i.k), .int i.a] := if_pos h
theorem insL_2 {i : Ins} (h : ¬ 35 ≤ i.k) (h2 : i.k = 21 ∨ i.k = 33) : insL i = [.str (opS i.k), .int i.a, .int i.b] := (if_neg h).trans (if_pos h2)
theorem insL_3 {i : Ins} (h : ¬ 35 ≤ i.k) (h2 : ¬ (i.k = 21 ∨ i.k = 33)) : insL i = [.str (opS i.k), .int i.a, .int i.b, .int i.c] := (if_neg h).trans (if_neg h2)
section
variable {P : Program} {w : World} {K : PySem.W.Frag} {mg : Str → Option Value} {base : Heap}

theorem sc_signed_field : FnScope ["value", "bits"] ["value", "bits"] (defScope (top 9)) := ⟨rfl, rfl, rfl, by decide +kernel, rfl, by decide +kernel, by decide +kernel⟩
def fSignedField : DSp := fun ds w P => ∃ (v : Int) (b : Nat), ds = [.int v, .int b] ∧ 0 ≤ v ∧ v < 2 ^ b ∧ (b = 18 ∨ b = 14) ∧ P (.int (sgn v b)) w
theorem ok_signed_field (T : Tx K mg) : Kp P w K mg base 1 "signed_field" ["value", "bits"] fSignedField := by
  have sc := sc_signed_field
  obtain ⟨f, fd, hm, FD⟩ := T.has 1 (i := 9) (x := "signed_field") rfl
  refine kp_of FD hm sc (fun _ _ _ _ _ _ us hl => match us, hl with | [_, _], _ => rfl) fun cdv A outer s H E hr => ⟨_, (wss_cons (ws_if (wt_truI (we_shr (we_var 0) (we_sub (we_var 1) we_int))) (wss_one (ws_ret (we_sub (we_var 0) (we_shl we_int (we_var 1))))) wss_nil)
    (wss_one (ws_ret (we_var 0)))), fun ds wd Q hl hF => ?_⟩
  obtain ⟨v, b, rfl, h0, h1, hb, q⟩ := hF
  unfold sgn at q
  rcases hb with rfl | rfl
  · refine ⟨(by show (0 : Int) ≤ 17; decide), fun h => ?_, fun h => ?_⟩
    · have h' : (v / 131072 != 0) = true := h
      have h2 : ¬ v / 131072 = 0 := by simpa using h'
      have h3 : (131072 : Int) ≤ v := by omega
      refine ⟨cpow (by decide) (by decide) (by decide) (by decide), le_w (qi q ?_)⟩
      exact (if_pos h3).symm
    · have h' : (v / 131072 != 0) = false := h
      have h2 : v / 131072 = 0 := by simpa using h'
      have h3 : ¬ (131072 : Int) ≤ v := by omega
      refine le_w (qi q ?_)
      exact (if_neg h3).symm
  · refine ⟨(by show (0 : Int) ≤ 13; decide), fun h => ?_, fun h => ?_⟩
    · have h' : (v / 8192 != 0) = true := h
      have h2 : ¬ v / 8192 = 0 := by simpa using h'
      have h3 : (8192 : Int) ≤ v := by omega
      refine ⟨cpow (by decide) (by decide) (by decide) (by decide), le_w (qi q ?_)⟩
      exact (if_pos h3).symm
    · have h' : (v / 8192 != 0) = false := h
      have h2 : v / 8192 = 0 := by simpa using h'
      have h3 : ¬ (8192 : Int) ≤ v := by omega
      refine le_w (qi q ?_)
      exact (if_neg h3).symm

theorem sc_encode : FnScope ["instruction", "op", "word"] ["instruction"] (defScope (top 8)) := ⟨rfl, rfl, rfl, by decide +kernel, rfl, by decide +kernel, by decide +kernel⟩
def fEncode : DSp := fun ds w P => ∃ i, ds = [insD i] ∧ InsOk i ∧ P (.int (encM i)) w
theorem ok_encode (T : Tx K mg) : Kp P w K mg base 1 "encode" ["instruction"] fEncode := by
  have sc := sc_encode
  obtain ⟨f, fd, hm, FD⟩ := T.has 0 (i := 8) (x := "encode") rfl
  obtain ⟨q_ALU, t_ALU⟩ := T.tup 0 (x := "ALU") (ss := cALU) rfl
  obtain ⟨q_OPS, t_OPS⟩ := T.tup 5 (x := "OPS") (ss := cOPS) rfl
  refine kp_of FD hm sc (fun _ _ _ _ _ _ us hl => match us, hl with | [_], _ => rfl) fun cdv A outer s H E hr => ⟨_, (wss_cons (ws_set (i := 1) sc.nd (we_ix (we_var 0) we_int))
    (wss_cons (ws_set (i := 2) sc.nd (we_shl (we_add (we_idxT t_OPS.1 t_OPS.2.1 t_OPS.2.2 (we_var 1)) we_int) we_int))
    (wss_cons (ws_aug (i := 2) sc.nd (we_shl (we_ix (we_var 0) we_int) we_int))
    (wss_cons (ws_if (wt_in (we_var 1) (we_tup (wa_cons we_str (wa_cons we_str (wa_cons we_str wa_nil))))) (wss_one (ws_ret (we_var 2))) wss_nil)
    (wss_cons (ws_if (wt_in (we_var 1) (we_tup (wa_cons we_str (wa_cons we_str wa_nil)))) (wss_one (ws_ret (we_add (we_var 2) (we_band (we_ix (we_var 0) we_int) we_int)))) wss_nil)
    (wss_cons (ws_aug (i := 2) sc.nd (we_shl (we_ix (we_var 0) we_int) we_int))
    (wss_cons (ws_if (wt_in (we_var 1) (we_gTup t_ALU.1 t_ALU.2.1)) (wss_one (ws_ret (we_add (we_var 2) (we_shl (we_ix (we_var 0) we_int) we_int)))) wss_nil)
    (wss_one (ws_ret (we_add (we_var 2) (we_band (we_ix (we_var 0) we_int) we_int))))))))))), fun ds wd Q hl hF => ?_⟩
  obtain ⟨i, rfl, ok, q⟩ := hF
  obtain ⟨hk, a0, a1, b0, b1, br, bl, c0, c1, cr⟩ := ok
  have hw : CPow ((i.k : Int) + 1) 26 := cpow (by decide) (by decide) (by omega) (by omega)
  have ha : CPow i.a 22 := cpow (by decide) (by decide) (by omega) (by omega)
  unfold encM at q
  unfold insD
  by_cases h35 : 35 ≤ i.k
  · rw [insL_1 h35]
    rw [if_pos h35] at q
    refine ⟨_, rfl, opS i.k, i.k, rfl, ops_at _ hk, ops_first _ hk, hw, ⟨_, rfl⟩, _, rfl, ha, by decide, rfl, fun h => ?_, fun h => ?_⟩
    · refine le_w (qi q ?_)
      dsimp only
      rw [p22, p26]
      omega
    · rw [in_gpe _ hk] at h
      simp [h35] at h
  · by_cases h2 : i.k = 21 ∨ i.k = 33
    · rw [insL_2 h35 h2]
      rw [if_neg h35, if_pos h2] at q
      refine ⟨_, rfl, opS i.k, i.k, rfl, ops_at _ hk, ops_first _ hk, hw, ⟨_, rfl⟩, _, rfl, ha, by decide, rfl, fun h => ?_, fun _ => ⟨by decide, rfl, fun h => ?_, fun h => ?_⟩⟩
      · rw [in_gpe _ hk] at h
        simp [h35] at h
      · refine ⟨_, rfl, le_w (qi q ?_)⟩
        rw [m18]
        dsimp only
        rw [p22, p26]
      · rw [in_lj _ hk] at h
        simp [h2] at h
    · rw [insL_3 h35 h2]
      rw [if_neg h35, if_neg h2] at q
      obtain ⟨d0, d1⟩ := br h2
      have hb : CPow i.b 18 := cpow (by decide) (by decide) (by omega) (by omega)
      refine ⟨_, rfl, opS i.k, i.k, rfl, ops_at _ hk, ops_first _ hk, hw, ⟨_, rfl⟩, _, rfl, ha, by decide, rfl, fun h => ?_, fun _ => ⟨by decide, rfl, fun h => ?_, fun h => ⟨⟨_, rfl⟩, _, rfl, hb, rfl, fun h => ?_, fun h => ?_⟩⟩⟩
      · rw [in_gpe _ hk] at h
        simp [h35] at h
      · rw [in_lj _ hk] at h
        simp [h2] at h
      · rw [in_ALU _ hk] at h
        have h13 : i.k < 13 := of_decide_eq_true h
        rw [if_pos h13] at q
        obtain ⟨e0, e1⟩ := cr h13
        refine ⟨_, rfl, cpow (by decide) (by decide) (by omega) (by omega), le_w (qi q ?_)⟩
        dsimp only
        rw [p14, p18, p22, p26]
        omega
      · rw [in_ALU _ hk] at h
        have h13 : ¬ i.k < 13 := of_decide_eq_false h
        rw [if_neg h13] at q
        refine ⟨_, rfl, le_w (qi q ?_)⟩
        rw [m14]
        dsimp only
        rw [p18, p22, p26]
        omega

theorem atI_ops {k : Nat} (h : k < 38) : atI (cOPS.map D.str) ((k : Nat) : Int) = some (.str (opS k)) := atI_nat (by rw [List.getElem?_map, ops_at k h] <;> rfl)
theorem lenOPS : ((cOPS.map D.str).length : Int) = 38 := by decide +kernel
theorem sc_fields : FnScope ["word", "number", "op", "first", "second"] ["word"] (defScope (top 10)) := ⟨rfl, rfl, rfl, by decide +kernel, rfl, by decide +kernel, by decide +kernel⟩
def fFields : DSp := fun ds w P => ∃ v, ds = [.int v] ∧ 0 ≤ v ∧ P (optD (fieldsM v)) w
theorem ok_fields (T : Tx K mg) (k_signed_field : Kp P w K mg base 1 "signed_field" ["value", "bits"] fSignedField) : Kp P w K mg base 2 "fields" ["word"] fFields := by
  have sc := sc_fields
  obtain ⟨f, fd, hm, FD⟩ := T.has 2 (i := 10) (x := "fields") rfl
  obtain ⟨q_ALU, t_ALU⟩ := T.tup 0 (x := "ALU") (ss := cALU) rfl
  obtain ⟨q_OPS, t_OPS⟩ := T.tup 5 (x := "OPS") (ss := cOPS) rfl
  refine kp_of FD hm sc (fun _ _ _ _ _ _ us hl => match us, hl with | [_], _ => rfl) fun cdv A outer s H E hr => ⟨_, (wss_cons (ws_set (i := 1) sc.nd (we_shr (we_var 0) we_int))
    (wss_cons (ws_if (wt_not (wt_chainLe we_int (we_var 1) (we_len (T.fre 0 rfl) (wa_cons (we_gTup t_OPS.1 t_OPS.2.1) wa_nil)))) (wss_one (ws_ret we_non)) wss_nil)
    (wss_cons (ws_set (i := 2) sc.nd (we_ix (we_gTup t_OPS.1 t_OPS.2.1) (we_sub (we_var 1) we_int)))
    (wss_cons (ws_set (i := 3) sc.nd (we_band (we_shr (we_var 0) we_int) we_int))
    (wss_cons (ws_set (i := 4) sc.nd (we_band (we_shr (we_var 0) we_int) we_int))
    (wss_cons (ws_if (wt_in (we_var 2) (we_tup (wa_cons we_str (wa_cons we_str (wa_cons we_str wa_nil))))) (wss_one (ws_ret (we_tup (wa_cons (we_var 2) (wa_cons (we_var 3) wa_nil))))) wss_nil)
    (wss_cons (ws_if (wt_eq hr (we_var 2) we_str) (wss_one (ws_ret (we_tup (wa_cons (we_var 2) (wa_cons (we_var 3) (wa_cons (we_band (we_var 0) we_int) wa_nil)))))) wss_nil)
    (wss_cons (ws_if (wt_eq hr (we_var 2) we_str) (wss_one (ws_ret (we_tup (wa_cons (we_var 2) (wa_cons (we_var 3) (wa_cons (we_call (k_signed_field.mono (by decide)) hr (wa_cons (we_band (we_var 0) we_int) (wa_cons we_int wa_nil))) wa_nil)))))) wss_nil)
    (wss_cons (ws_if (wt_in (we_var 2) (we_gTup t_ALU.1 t_ALU.2.1)) (wss_one (ws_ret (we_tup (wa_cons (we_var 2) (wa_cons (we_var 3) (wa_cons (we_var 4) (wa_cons (we_band (we_shr (we_var 0) we_int) we_int) wa_nil))))))) wss_nil)
    (wss_one (ws_ret (we_tup (wa_cons (we_var 2) (wa_cons (we_var 3) (wa_cons (we_var 4) (wa_cons (we_call (k_signed_field.mono (by decide)) hr (wa_cons (we_band (we_var 0) we_int) (wa_cons we_int wa_nil))) wa_nil)))))))))))))))), fun ds wd Q hl hF => ?_⟩
  obtain ⟨v, rfl, h0, q⟩ := hF
  unfold fieldsM at q
  refine ⟨(by decide : (0 : Int) ≤ 26), fun h1 => ?_, fun h1 => ?_⟩
  · refine ⟨fun h => ?_, fun h => ?_⟩
    · have h' : (!decide (v / 67108864 ≤ ((cOPS.map D.str).length : Int))) = true := h
      rw [lenOPS] at h'
      have h2 : ¬ v / 67108864 ≤ 38 := by simpa using h'
      rw [if_neg (fun z => h2 z.2)] at q
      exact le_w q
    · have h' : (!decide (v / 67108864 ≤ ((cOPS.map D.str).length : Int))) = false := h
      rw [lenOPS] at h'
      have h2 : v / 67108864 ≤ 38 := by simpa using h'
      have h1' : 1 ≤ v / 67108864 := h1
      rw [if_pos ⟨h1', h2⟩] at q
      have hk : fieldK v < 38 := by unfold fieldK; omega
      have ek : v / 67108864 - 1 = ((fieldK v : Nat) : Int) := by unfold fieldK; omega
      refine ⟨.str (opS (fieldK v)), ?_, (by decide : (0 : Int) ≤ 22), (by decide : (0 : Int) ≤ 18), by decide, rfl, fun h => ?_, fun h => ⟨fun h3 => ?_, fun h3 => ⟨fun h4 => ?_, fun h4 => ⟨rfl, fun h5 => ?_, fun h5 => ?_⟩⟩⟩⟩
      · show atI (cOPS.map D.str) (v / 67108864 - 1) = _
        rw [ek]
        exact atI_ops hk
      · rw [in_gpe _ hk] at h
        have h35 := of_decide_eq_true h
        have e : fieldI v = ⟨fieldK v, v / 4194304 % 16, 0, 0⟩ := by unfold fieldI; rw [if_pos h35]
        rw [e] at q
        have e2 : optD (some ⟨fieldK v, v / 4194304 % 16, 0, 0⟩) = .tup [.str (opS (fieldK v)), .int (v / 4194304 % 16)] := congrArg D.tup (insL_1 h35)
        rw [e2, ← m4] at q
        exact ⟨sz rfl, le_w q⟩
      · rw [in_gpe _ hk] at h
        have h35 := of_decide_eq_false h
        have h3' : decide (opS (fieldK v) = opS 21) = true := h3
        rw [op_eq_at _ hk 21 (by decide)] at h3'
        have h21 := of_decide_eq_true h3'
        have e : fieldI v = ⟨fieldK v, v / 4194304 % 16, v % 262144, 0⟩ := by unfold fieldI; rw [if_neg h35, if_pos h21]
        rw [e] at q
        have e2 : optD (some ⟨fieldK v, v / 4194304 % 16, v % 262144, 0⟩) = .tup [.str (opS (fieldK v)), .int (v / 4194304 % 16), .int (v % 262144)] := congrArg D.tup (insL_2 h35 (.inl h21))
        rw [e2, ← m4, ← m18] at q
        exact ⟨sz rfl, le_w q⟩
      · rw [in_gpe _ hk] at h
        have h35 := of_decide_eq_false h
        have h3' : decide (opS (fieldK v) = opS 21) = false := h3
        rw [op_eq_at _ hk 21 (by decide)] at h3'
        have h21 := of_decide_eq_false h3'
        have h4' : decide (opS (fieldK v) = opS 33) = true := h4
        rw [op_eq_at _ hk 33 (by decide)] at h4'
        have h33 := of_decide_eq_true h4'
        have e : fieldI v = ⟨fieldK v, v / 4194304 % 16, sgn (v % 262144) 18, 0⟩ := by unfold fieldI; rw [if_neg h35, if_neg h21, if_pos h33]
        rw [e] at q
        have e2 : optD (some ⟨fieldK v, v / 4194304 % 16, sgn (v % 262144) 18, 0⟩) = .tup [.str (opS (fieldK v)), .int (v / 4194304 % 16), .int (sgn (v % 262144) 18)] := congrArg D.tup (insL_2 h35 (.inr h33))
        rw [e2, ← m4, ← m18] at q
        refine ⟨rfl, Builtin.bitAnd v 262143, 18, rfl, ?_, ?_, .inl rfl, sz rfl, le_w q⟩
        · rw [m18]; omega
        · rw [m18]; show _ < (262144 : Int); omega
      · rw [in_gpe _ hk] at h
        have h35 := of_decide_eq_false h
        have h3' : decide (opS (fieldK v) = opS 21) = false := h3
        rw [op_eq_at _ hk 21 (by decide)] at h3'
        have h21 := of_decide_eq_false h3'
        have h4' : decide (opS (fieldK v) = opS 33) = false := h4
        rw [op_eq_at _ hk 33 (by decide)] at h4'
        have h33 := of_decide_eq_false h4'
        rw [in_ALU _ hk] at h5
        have h13 := of_decide_eq_true h5
        have e : fieldI v = ⟨fieldK v, v / 4194304 % 16, v / 262144 % 16, v / 16384 % 16⟩ := by unfold fieldI; rw [if_neg h35, if_neg h21, if_neg h33, if_pos h13]
        rw [e] at q
        have e2 : optD (some ⟨fieldK v, v / 4194304 % 16, v / 262144 % 16, v / 16384 % 16⟩) = .tup [.str (opS (fieldK v)), .int (v / 4194304 % 16), .int (v / 262144 % 16), .int (v / 16384 % 16)] :=
          congrArg D.tup (insL_3 h35 (fun z => z.elim h21 h33))
        rw [e2, ← m4, ← m4, ← m4] at q
        exact ⟨(by decide : (0 : Int) ≤ 14), sz rfl, le_w q⟩
      · rw [in_gpe _ hk] at h
        have h35 := of_decide_eq_false h
        have h3' : decide (opS (fieldK v) = opS 21) = false := h3
        rw [op_eq_at _ hk 21 (by decide)] at h3'
        have h21 := of_decide_eq_false h3'
        have h4' : decide (opS (fieldK v) = opS 33) = false := h4
        rw [op_eq_at _ hk 33 (by decide)] at h4'
        have h33 := of_decide_eq_false h4'
        rw [in_ALU _ hk] at h5
        have h13 := of_decide_eq_false h5
        have e : fieldI v = ⟨fieldK v, v / 4194304 % 16, v / 262144 % 16, sgn (v % 16384) 14⟩ := by unfold fieldI; rw [if_neg h35, if_neg h21, if_neg h33, if_neg h13]
        rw [e] at q
        have e2 : optD (some ⟨fieldK v, v / 4194304 % 16, v / 262144 % 16, sgn (v % 16384) 14⟩) = .tup [.str (opS (fieldK v)), .int (v / 4194304 % 16), .int (v / 262144 % 16), .int (sgn (v % 16384) 14)] :=
          congrArg D.tup (insL_3 h35 (fun z => z.elim h21 h33))
        rw [e2, ← m4, ← m4, ← m14] at q
        refine ⟨rfl, Builtin.bitAnd v 16383, 14, rfl, ?_, ?_, .inr rfl, sz rfl, le_w q⟩
        · rw [m14]; omega
        · rw [m14]; show _ < (16384 : Int); omega
  · refine ⟨fun _ => ?_, fun h => ?_⟩
    · have h1' : ¬ 1 ≤ v / 67108864 := h1
      rw [if_neg (fun z => h1' z.1)] at q
      exact le_w q
    · exact absurd (show true = false from h) (by decide)

theorem sc_decode : FnScope ["word", "instruction"] ["word"] (defScope (top 11)) := ⟨rfl, rfl, rfl, by decide +kernel, rfl, by decide +kernel, by decide +kernel⟩
def fDecode : DSp := fun ds w P => ∃ v, ds = [.int v] ∧ 0 ≤ v ∧ P (optD (decM v)) w
theorem ok_decode (T : Tx K mg) (k_fields : Kp P w K mg base 2 "fields" ["word"] fFields) (k_encode : Kp P w K mg base 1 "encode" ["instruction"] fEncode) : Kp P w K mg base 3 "decode" ["word"] fDecode := by
  have sc := sc_decode
  obtain ⟨f, fd, hm, FD⟩ := T.has 3 (i := 11) (x := "decode") rfl
  refine kp_of FD hm sc (fun _ _ _ _ _ _ us hl => match us, hl with | [_], _ => rfl) fun cdv A outer s H E hr => ⟨_, (wss_cons (ws_set (i := 1) sc.nd (we_call (k_fields.mono (by decide)) hr (wa_cons (we_var 0) wa_nil)))
    (wss_cons (ws_if (PW.pt (ww_or (wt_is (we_var 1) we_non) (ww_or1 (wt_ne hr (we_call (k_encode.mono (by decide)) hr (wa_cons (we_var 1) wa_nil)) (we_var 0))))) (wss_one (ws_ret we_non)) wss_nil)
    (wss_one (ws_ret (we_var 1))))), fun ds wd Q hl hF => ?_⟩
  obtain ⟨v, rfl, h0, q⟩ := hF
  unfold decM at q
  cases e : fieldsM v with
  | none =>
    rw [e] at q
    refine ⟨rfl, v, rfl, h0, ?_⟩
    rw [e]
    exact ⟨fun _ => ⟨fun _ => le_w q, fun z => absurd (show true = false from z) (by decide)⟩, fun z => absurd (show true = false from z) (by decide)⟩
  | some i =>
    rw [e] at q
    have ok := fieldsM_ok h0 e
    refine ⟨rfl, v, rfl, h0, ?_⟩
    rw [e]
    refine ⟨fun z => absurd (show false = true from z) (by decide), fun _ => ⟨rfl, i, rfl, ok, ?_⟩⟩
    refine ⟨fun h => ?_, fun h => ?_⟩
    · have h' : (!decide (encM i = v)) = true := h
      have h2 : ¬ encM i = v := by simpa using h'
      have q' : Q (optD (if encM i = v then some i else none)) wd := q
      rw [if_neg h2] at q'
      exact le_w q'
    · have h' : (!decide (encM i = v)) = false := h
      have h2 : encM i = v := by simpa using h'
      have q' : Q (optD (if encM i = v then some i else none)) wd := q
      rw [if_pos h2] at q'
      exact le_w q'
end
end Rs
set_option maxHeartbeats 4000000
/-! The program's defs: memory. -/
namespace Rs
open PySem PySem.Spec PyProof.Rows L2
theorem home_some {segs : List Seg} {a c : Int} {k : Nat} (h : homeM segs a c = some k) : ∃ s, segs[k]? = some s ∧ inSeg a c s = true := by
  unfold homeM at h
  obtain ⟨hk, h1, _⟩ := List.findIdx?_eq_some_iff_getElem.mp h
  exact ⟨segs[k], List.getElem?_eq_getElem hk, h1⟩
theorem home_found {segs : List Seg} {a c : Int} {k : Nat} {s : Seg} (h : segs[k]? = some s) (hs : inSeg a c s = true) (hno : ∀ j, j < k → ∀ u, segs[j]? = some u → inSeg a c u = false) : homeM segs a c = some k := by
  obtain ⟨hk, e⟩ := List.getElem?_eq_some_iff.mp h
  refine List.findIdx?_eq_some_iff_getElem.mpr ⟨hk, by rw [e]; exact hs, fun j hj => ?_⟩
  have hjl : j < segs.length := by omega
  rw [hno j hj segs[j] (List.getElem?_eq_getElem hjl)]
  exact Bool.false_ne_true
theorem home_none {segs : List Seg} {a c : Int} (hno : ∀ j, j < segs.length → ∀ u, segs[j]? = some u → inSeg a c u = false) : homeM segs a c = none := by
  refine List.findIdx?_eq_none_iff.mpr fun x hx => ?_
  obtain ⟨j, hj, e⟩ := List.mem_iff_getElem.mp hx
  exact hno j hj x (by rw [List.getElem?_eq_getElem hj, e])
theorem segOf_at {I : Img} {k : Nat} {s : Seg} (h : I.segs[k]? = some s) : segOf I k = s := by
  unfold segOf
  rw [List.getD_eq_getElem?_getD, h]
  rfl
theorem atI_map {α : Type} {f : α → D} {l : List α} {j : Nat} {x : α} (h : l[j]? = some x) : atI (l.map f) ((j : Nat) : Int) = some (f x) := atI_nat (by rw [List.getElem?_map, h] <;> rfl)
theorem atI_intsD {ns : List Int} {j : Nat} {x : Int} (h : ns[j]? = some x) : atI (ns.map D.int) ((j : Nat) : Int) = some (.int x) := atI_map h
theorem optI_nn {o : Option Nat} : decide (0 ≤ optI o) = o.isSome := by
  cases o with
  | none => rfl
  | some k => exact decide_eq_true (Int.natCast_nonneg k)
section
variable {P : Program} {w : World} {K : PySem.W.Frag} {mg : Str → Option Value} {base : Heap}

theorem sc_find_segment : FnScope ["image", "address", "count", "segments", "k"] ["image", "address", "count"] (defScope (top 13)) := ⟨rfl, rfl, rfl, by decide +kernel, rfl, by decide +kernel, by decide +kernel⟩
def fFind : DSp := fun ds w P => ∃ I a c, ds = [imgD I, .int a, .int c] ∧ I.segs.length ≤ 1000 ∧ P (.int (optI (homeM I.segs a c))) w
theorem ok_find_segment (T : Tx K mg) : Kp P w K mg base 1 "find_segment" ["image", "address", "count"] fFind := by
  have sc := sc_find_segment
  obtain ⟨f, fd, hm, FD⟩ := T.has 4 (i := 13) (x := "find_segment") rfl
  refine kp_of FD hm sc (fun _ _ _ _ _ _ us hl => match us, hl with | [_, _, _], _ => rfl) fun cdv A outer s H E hr => ⟨_, (wss_cons (ws_set (i := 3) sc.nd (we_ix (we_var 0) we_int))
    (wss_cons (ws_forR (i := 4) PassesOwn.never (by rfl) sc.nd (T.fre 1 rfl) (we_len (T.fre 0 rfl) (wa_cons (we_var 3) wa_nil)) (wss_one (ws_if (PW.pt (ww_and (wt_le (we_ix (we_ix (we_var 3) (we_var 4)) we_int) (we_var 1)) (ww_and1 (wt_le (we_add (we_var 1) (we_var 2)) (we_add (we_ix (we_ix (we_var 3) (we_var 4)) we_int) (we_len (T.fre 0 rfl) (wa_cons (we_ix (we_ix (we_var 3) (we_var 4)) we_int) wa_nil))))))) (wss_one (ws_ret (we_var 4))) wss_nil)))
    (wss_one (ws_ret (we_neg we_int))))), fun ds wd Q hl hF => ?_⟩
  obtain ⟨I, a, c, rfl, hn, q⟩ := hF
  refine ⟨_, rfl, ?_, ?_, fun k ρ w' => w' = wd ∧ (∃ x, ρ = [some (imgD I), some (.int a), some (.int c), some (.tup (I.segs.map segD)), x]) ∧ ∀ j, j < k → ∀ u, I.segs[j]? = some u → inSeg a c u = false, ⟨rfl, ⟨none, rfl⟩, fun j hj => absurd hj (Nat.not_lt_zero j)⟩, ?_, ?_⟩
  · show -(2 ^ 62) ≤ (((I.segs.map segD).length : Nat) : Int)
    omega
  · show (((I.segs.map segD).length : Nat) : Int) < 2 ^ 62
    rw [List.length_map]
    omega
  · rintro k ρ w' hk ⟨rfl, ⟨x, rfl⟩, hno⟩
    have hk' : k < I.segs.length := by
      have : k < ((((I.segs.map segD).length : Nat) : Int)).toNat := hk
      rw [List.length_map] at this
      omega
    have hs : I.segs[k]? = some I.segs[k] := List.getElem?_eq_getElem hk'
    refine ⟨_, atI_map hs, _, rfl, fun h1 => ⟨_, atI_map hs, _, rfl, _, atI_map hs, _, rfl, fun h2 => ?_, fun h2 => ?_⟩, fun h1 => ⟨fun z => absurd (show false = true from z) (by decide), fun _ => ?_⟩⟩
    · have e : homeM I.segs a c = some k := home_found hs (by
        unfold inSeg
        have g1 : decide (I.segs[k].base ≤ a) = true := h1
        have g2 : decide (a + c ≤ I.segs[k].base + (((I.segs[k].vals.map D.int).length : Nat) : Int)) = true := h2
        rw [List.length_map] at g2
        exact decide_eq_true ⟨of_decide_eq_true g1, of_decide_eq_true g2⟩) hno
      rw [e] at q
      exact le_w q
    · refine ⟨rfl, ⟨_, rfl⟩, fun j hj u hu => ?_⟩
      by_cases hjk : j = k
      · subst hjk
        rw [hs] at hu
        cases hu
        have g2 : decide (a + c ≤ I.segs[j].base + (((I.segs[j].vals.map D.int).length : Nat) : Int)) = false := h2
        rw [List.length_map] at g2
        unfold inSeg
        exact decide_eq_false fun z => of_decide_eq_false g2 z.2
      · exact hno j (by omega) u hu
    · refine ⟨rfl, ⟨_, rfl⟩, fun j hj u hu => ?_⟩
      by_cases hjk : j = k
      · subst hjk
        rw [hs] at hu
        cases hu
        have g1 : decide (I.segs[j].base ≤ a) = false := h1
        unfold inSeg
        exact decide_eq_false fun z => of_decide_eq_false g1 z.1
      · exact hno j (by omega) u hu
  · rintro ρ w' ⟨rfl, ⟨x, rfl⟩, hno⟩
    have e : homeM I.segs a c = none := home_none fun j hj => hno j (by
      show j < ((((I.segs.map segD).length : Nat) : Int)).toNat
      rw [List.length_map]
      omega)
    rw [e] at q
    exact le_w q

theorem sc_can_load : FnScope ["image", "address", "count"] ["image", "address", "count"] (defScope (top 14)) := ⟨rfl, rfl, rfl, by decide +kernel, rfl, by decide +kernel, by decide +kernel⟩
def fCanLoad : DSp := fun ds w P => ∃ I a c, ds = [imgD I, .int a, .int c] ∧ I.segs.length ≤ 1000 ∧ P (.bl (loadOk I a c).isSome) w
theorem ok_can_load (T : Tx K mg) (k_find_segment : Kp P w K mg base 1 "find_segment" ["image", "address", "count"] fFind) : Kp P w K mg base 2 "can_load" ["image", "address", "count"] fCanLoad := by
  have sc := sc_can_load
  obtain ⟨f, fd, hm, FD⟩ := T.has 5 (i := 14) (x := "can_load") rfl
  refine kp_of FD hm sc (fun _ _ _ _ _ _ us hl => match us, hl with | [_, _, _], _ => rfl) fun cdv A outer s H E hr => ⟨_, (wss_one (ws_ret (we_and (we_or (we_eq hr (we_var 2) we_int) (we_one (we_eq hr (we_band (we_var 1) we_int) we_int))) (we_one (we_ge (we_call (k_find_segment.mono (by decide)) hr (wa_cons (we_var 0) (wa_cons (we_var 1) (wa_cons (we_var 2) wa_nil)))) we_int))))), fun ds wd Q hl hF => ?_⟩
  obtain ⟨I, a, c, rfl, hn, q⟩ := hF
  unfold loadOk at q
  have fin : (if c = 1 ∨ a % 4 = 0 then homeM I.segs a c else none) = homeM I.segs a c → Q (.bl (decide (0 ≤ optI (homeM I.segs a c)))) wd := fun e => by
    rw [e] at q
    exact qb q optI_nn
  refine ⟨fun h => ⟨fun _ => ⟨rfl, I, a, c, rfl, hn, le_w (fin (if_pos (.inl (of_decide_eq_true h))))⟩, fun z => absurd (show true = false from z) (by decide)⟩, fun h => ⟨fun h2 => ⟨rfl, I, a, c, rfl, hn, le_w (fin (if_pos (.inr (by
      have h' : decide (Builtin.bitAnd a 3 = 0) = true := h2
      rw [m2] at h'
      exact of_decide_eq_true h'))))⟩, fun h2 => ?_⟩⟩
  · have h' : decide (Builtin.bitAnd a 3 = 0) = false := h2
    rw [m2] at h'
    rw [if_neg (fun z => z.elim (of_decide_eq_false h) (of_decide_eq_false h'))] at q
    exact le_w q

theorem sc_can_store : FnScope ["image", "address", "count", "k"] ["image", "address", "count"] (defScope (top 15)) := ⟨rfl, rfl, rfl, by decide +kernel, rfl, by decide +kernel, by decide +kernel⟩
def fCanStore : DSp := fun ds w P => ∃ I a c, ds = [imgD I, .int a, .int c] ∧ (c = 1 ∨ c = 4) ∧ I.segs.length ≤ 1000 ∧ P (.bl (storeOk I a c).isSome) w
theorem ok_can_store (T : Tx K mg) (k_find_segment : Kp P w K mg base 1 "find_segment" ["image", "address", "count"] fFind) : Kp P w K mg base 2 "can_store" ["image", "address", "count"] fCanStore := by
  have sc := sc_can_store
  obtain ⟨f, fd, hm, FD⟩ := T.has 6 (i := 15) (x := "can_store") rfl
  refine kp_of FD hm sc (fun _ _ _ _ _ _ us hl => match us, hl with | [_, _, _], _ => rfl) fun cdv A outer s H E hr => ⟨_, (wss_cons (ws_if (PW.pt (ww_and (wt_eq hr (we_var 2) we_int) (ww_and1 (wt_ne hr (we_band (we_var 1) we_int) we_int)))) (wss_one (ws_ret we_bl)) wss_nil)
    (wss_cons (ws_set (i := 3) sc.nd (we_call (k_find_segment.mono (by decide)) hr (wa_cons (we_var 0) (wa_cons (we_var 1) (wa_cons (we_var 2) wa_nil)))))
    (wss_one (ws_ret (we_and (we_ge (we_var 3) we_int) (we_one (we_ix (we_ix (we_ix (we_var 0) we_int) (we_var 3)) we_int))))))), fun ds wd Q hl hF => ?_⟩
  obtain ⟨I, a, c, rfl, hc, hn, q⟩ := hF
  unfold storeOk loadOk at q
  have go : (if c = 1 ∨ a % 4 = 0 then homeM I.segs a c else none) = homeM I.segs a c → dSeq (dSet (dCall 3 fFind (dCons (dVar 0) (dCons (dVar 1) (dCons (dVar 2) dNil)))) 3)
      (dRet (dAndV (cmGe (dVar 3) (dC (.int 0))) (dIx (dIx (dIx (dVar 0) (dC (.int 0))) (dVar 3)) (dC (.int 2))))) (endD Q) [some (imgD I), some (.int a), some (.int c), none] wd := fun e => by
    rw [e] at q
    refine ⟨rfl, I, a, c, rfl, hn, ?_⟩
    cases eh : homeM I.segs a c with
    | none =>
      rw [eh] at q
      exact ⟨fun z => absurd (show false = true from z) (by decide), fun _ => le_w q⟩
    | some k =>
      rw [eh] at q
      obtain ⟨s, hs, _⟩ := home_some eh
      refine ⟨fun _ => ⟨_, rfl, _, atI_map hs, _, rfl, ?_⟩, fun z => absurd (show decide (0 ≤ ((k : Nat) : Int)) = false from z) (by rw [decide_eq_true (Int.natCast_nonneg k)]; decide)⟩
      have q' : Q (.bl (if (segOf I k).wr = true then some k else none).isSome) wd := q
      rw [segOf_at hs] at q'
      refine le_w (qb q' ?_)
      cases s.wr <;> rfl
  refine ⟨fun h => ⟨fun h2 => ?_, fun h2 => go (if_pos (.inr ?_))⟩, fun h => ⟨fun z => absurd (show false = true from z) (by decide), fun _ => go (if_pos (.inl ?_))⟩⟩
  · have h' : (!decide (Builtin.bitAnd a 3 = 0)) = true := h2
    rw [m2] at h'
    have h3 : ¬ a % 4 = 0 := by simpa using h'
    have h4 : c = 4 := of_decide_eq_true h
    rw [if_neg (fun z => z.elim (fun z => by omega) h3)] at q
    exact le_w q
  · have h' : (!decide (Builtin.bitAnd a 3 = 0)) = false := h2
    rw [m2] at h'
    simpa using h'
  · have h4 : ¬ c = 4 := of_decide_eq_false h
    rcases hc with e | e
    · exact e
    · exact absurd e h4

theorem sc_can_fetch : FnScope ["image", "address", "k"] ["image", "address"] (defScope (top 16)) := ⟨rfl, rfl, rfl, by decide +kernel, rfl, by decide +kernel, by decide +kernel⟩
def fCanFetch : DSp := fun ds w P => ∃ I a, ds = [imgD I, .int a] ∧ I.segs.length ≤ 1000 ∧ P (.bl (fetchM I a).isSome) w
theorem ok_can_fetch (T : Tx K mg) (k_find_segment : Kp P w K mg base 1 "find_segment" ["image", "address", "count"] fFind) : Kp P w K mg base 2 "can_fetch" ["image", "address"] fCanFetch := by
  have sc := sc_can_fetch
  obtain ⟨f, fd, hm, FD⟩ := T.has 7 (i := 16) (x := "can_fetch") rfl
  refine kp_of FD hm sc (fun _ _ _ _ _ _ us hl => match us, hl with | [_, _], _ => rfl) fun cdv A outer s H E hr => ⟨_, (wss_cons (ws_set (i := 2) sc.nd (we_call (k_find_segment.mono (by decide)) hr (wa_cons (we_var 0) (wa_cons (we_var 1) (wa_cons we_int wa_nil)))))
    (wss_one (ws_ret (we_and (we_eq hr (we_band (we_var 1) we_int) we_int) (we_and (we_ge (we_var 2) we_int) (we_one (we_ix (we_ix (we_ix (we_var 0) we_int) (we_var 2)) we_int))))))), fun ds wd Q hl hF => ?_⟩
  obtain ⟨I, a, rfl, hn, q⟩ := hF
  unfold fetchM loadOk at q
  refine ⟨rfl, I, a, 4, rfl, hn, fun h => ?_, fun h => ?_⟩
  · have h' : decide (Builtin.bitAnd a 3 = 0) = true := h
    rw [m2] at h'
    rw [if_pos (.inr (of_decide_eq_true h'))] at q
    cases eh : homeM I.segs a 4 with
    | none =>
      rw [eh] at q
      exact ⟨fun z => absurd (show false = true from z) (by decide), fun _ => le_w q⟩
    | some k =>
      rw [eh] at q
      obtain ⟨s, hs, _⟩ := home_some eh
      refine ⟨fun _ => ⟨_, rfl, _, atI_map hs, _, rfl, ?_⟩, fun z => absurd (show decide (0 ≤ ((k : Nat) : Int)) = false from z) (by rw [decide_eq_true (Int.natCast_nonneg k)]; decide)⟩
      have q' : Q (.bl (if (segOf I k).ex = true then some (rdM (segOf I k).vals (a - (segOf I k).base).toNat 4) else none).isSome) wd := q
      rw [segOf_at hs] at q'
      refine le_w (qb q' ?_)
      cases s.ex <;> rfl
  · have h' : decide (Builtin.bitAnd a 3 = 0) = false := h
    rw [m2] at h'
    rw [if_neg (fun z => z.elim (fun z => by omega) (of_decide_eq_false h'))] at q
    exact le_w q
end
end Rs
set_option maxHeartbeats 4000000
/-! The program's defs: memory, read and written. -/
namespace Rs
open PySem PySem.Spec PyProof.Rows L2
/-- value | byte << 8 j -/
theorem or_high {v b : Int} {k : Nat} (h0 : 0 ≤ v) (h1 : v < 2 ^ k) (hb : 0 ≤ b) : Builtin.bitOr v (b * 2 ^ k) = v + b * 2 ^ k := by
  obtain ⟨x, rfl⟩ := Int.eq_ofNat_of_zero_le h0
  obtain ⟨y, rfl⟩ := Int.eq_ofNat_of_zero_le hb
  have hx : x < 2 ^ k := nat_lt_pow h1
  rw [cast_parts, bitOr_nn (Int.natCast_nonneg _) (Int.natCast_nonneg _), Int.toNat_natCast, Int.toNat_natCast, Nat.or_comm, ← nat_parts y hx, Int.natCast_add, Int.add_comm]
theorem pow8 (n : Nat) : (2 : Int) ^ (8 * (n + 1)) = 2 ^ (8 * n) * 256 := by
  rw [show 8 * (n + 1) = 8 * n + 8 by omega, Int.pow_add]
  rfl
theorem pow8_pos (n : Nat) : (0 : Int) < 2 ^ (8 * n) := Int.pow_pos (by decide)
theorem rdM_bound {row : List Int} {p : Nat} : ∀ (n : Nat), p + n ≤ row.length → (∀ x ∈ row, Byte x) → 0 ≤ rdM row p n ∧ rdM row p n < 2 ^ (8 * n)
  | 0, _, _ => ⟨Int.le_refl 0, (by decide : (0 : Int) < 1)⟩
  | n + 1, h, hb => by
    obtain ⟨h0, h1⟩ := rdM_bound (row := row) (p := p) n (by omega) hb
    have hl : p + n < row.length := by omega
    have hg : row.getD (p + n) 0 = row[p + n] := by rw [List.getD_eq_getElem?_getD, List.getElem?_eq_getElem hl]; rfl
    obtain ⟨b0, b1⟩ := hb row[p + n] (List.getElem_mem hl)
    have pp := pow8_pos n
    rw [pow8]
    show 0 ≤ rdM row p n + row.getD (p + n) 0 * 2 ^ (8 * n) ∧ rdM row p n + row.getD (p + n) 0 * 2 ^ (8 * n) < 2 ^ (8 * n) * 256
    rw [hg]
    have e1 : 0 ≤ row[p + n] * 2 ^ (8 * n) := Int.mul_nonneg b0 (Int.le_of_lt pp)
    have e2 : row[p + n] * 2 ^ (8 * n) ≤ 255 * 2 ^ (8 * n) := Int.mul_le_mul_of_nonneg_right (by omega) (Int.le_of_lt pp)
    constructor
    · omega
    · rw [Int.mul_comm (2 ^ (8 * n)) 256]
      omega
/-- a place within a segment -/
theorem inSeg_place {a c : Int} {s : Seg} {n : Nat} (h : inSeg a c s = true) (hc : c = n) : 0 ≤ a - s.base ∧ (a - s.base).toNat + n ≤ s.vals.length ∧ a - s.base = (((a - s.base).toNat : Nat) : Int) := by
  obtain ⟨h1, h2⟩ := of_decide_eq_true (show decide (s.base ≤ a ∧ a + c ≤ s.base + s.vals.length) = true from h)
  subst hc
  omega
section
variable {P : Program} {w : World} {K : PySem.W.Frag} {mg : Str → Option Value} {base : Heap}

theorem sc_load_word : FnScope ["image", "memory", "address", "count", "k", "at", "value", "j"] ["image", "memory", "address", "count"] (defScope (top 17)) := ⟨rfl, rfl, rfl, by decide +kernel, rfl, by decide +kernel, by decide +kernel⟩
def fLoadWord : DSp := fun ds w P => ∃ I m a c n k row, ds = [imgD I, memD m, .int a, .int c] ∧ c = ((n : Nat) : Int) ∧ n ≤ 4 ∧ I.segs.length ≤ 1000 ∧ homeM I.segs a c = some k ∧ m[k]? = some row ∧ row.length = (segOf I k).vals.length ∧ (∀ x ∈ row, Byte x) ∧
  P (.int (rdM row (a - (segOf I k).base).toNat n)) w
theorem ok_load_word (T : Tx K mg) (k_find_segment : Kp P w K mg base 1 "find_segment" ["image", "address", "count"] fFind) : Kp P w K mg base 2 "load_word" ["image", "memory", "address", "count"] fLoadWord := by
  have sc := sc_load_word
  obtain ⟨f, fd, hm, FD⟩ := T.has 8 (i := 17) (x := "load_word") rfl
  refine kp_of FD hm sc (fun _ _ _ _ _ _ us hl => match us, hl with | [_, _, _, _], _ => rfl) fun cdv A outer s H E hr => ⟨_, (wss_cons (ws_set (i := 4) sc.nd (we_call (k_find_segment.mono (by decide)) hr (wa_cons (we_var 0) (wa_cons (we_var 2) (wa_cons (we_var 3) wa_nil)))))
    (wss_cons (ws_set (i := 5) sc.nd (we_sub (we_var 2) (we_ix (we_ix (we_ix (we_var 0) we_int) (we_var 4)) we_int)))
    (wss_cons (ws_set (i := 6) sc.nd we_int)
    (wss_cons (ws_forR (i := 7) PassesOwn.never (by rfl) sc.nd (T.fre 1 rfl) (we_var 3) (wss_one (ws_set (i := 6) sc.nd (we_bor (we_var 6) (we_shl (we_ix (we_ix (we_var 1) (we_var 4)) (we_add (we_var 5) (we_var 7))) (we_mul we_int (we_var 7)))))))
    (wss_one (ws_ret (we_var 6))))))), fun ds wd Q hl hF => ?_⟩
  obtain ⟨I, m, a, c, n, k, row, rfl, rfl, hn4, hns, eh, hm2, hlen, hb, q⟩ := hF
  obtain ⟨s, hs, hin⟩ := home_some eh
  rw [segOf_at hs] at hlen q
  obtain ⟨g0, g1, g2⟩ := inSeg_place hin rfl
  refine ⟨rfl, I, a, _, rfl, hns, ?_⟩
  rw [eh]
  refine ⟨_, rfl, _, atI_map hs, _, rfl, ?_, ?_, fun j ρ w' => w' = wd ∧ ∃ x, ρ = [some (imgD I), some (memD m), some (.int a), some (.int ((n : Nat) : Int)), some (.int ((k : Nat) : Int)), some (.int (a - s.base)), some (.int (rdM row (a - s.base).toNat j)), x], ⟨rfl, none, rfl⟩, ?_, ?_⟩
  · show -(2 ^ 62) ≤ ((n : Nat) : Int)
    omega
  · show ((n : Nat) : Int) < 2 ^ 62
    omega
  · rintro j ρ w' hj ⟨rfl, x, rfl⟩
    have hj' : j < n := by rw [Int.toNat_natCast] at hj; exact hj
    have hl : (a - s.base).toNat + j < row.length := by omega
    have hg : row[(a - s.base).toNat + j]? = some row[(a - s.base).toNat + j] := List.getElem?_eq_getElem hl
    have ea : a - s.base + (j : Int) = (((a - s.base).toNat + j : Nat) : Int) := by omega
    obtain ⟨b0, b1⟩ := hb _ (List.getElem_mem hl)
    have e8 : ((8 : Int) * (j : Int)).toNat = 8 * j := by omega
    obtain ⟨r0, r1⟩ := rdM_bound (row := row) (p := (a - s.base).toNat) j (by omega) hb
    refine ⟨_, atI_map hm2, .int row[(a - s.base).toNat + j], ?_, .inl (by decide), cpow ?_ ?_ ?_ ?_, rfl, some (.int ((j : Nat) : Int)), ?_⟩
    · show atI (row.map D.int) (a - s.base + (j : Int)) = _
      rw [ea]
      exact atI_intsD hg
    · show (0 : Int) ≤ 8 * (j : Int)
      omega
    · show (8 : Int) * (j : Int) ≤ 1000
      omega
    · omega
    · omega
    · have ev : Builtin.bitOr (rdM row (a - s.base).toNat j) (row[(a - s.base).toNat + j] * 2 ^ ((8 : Int) * (j : Int)).toNat) = rdM row (a - s.base).toNat (j + 1) := by
        rw [e8, or_high r0 r1 b0]
        show _ = rdM row (a - s.base).toNat j + row.getD ((a - s.base).toNat + j) 0 * 2 ^ (8 * j)
        rw [List.getD_eq_getElem?_getD, hg]
        rfl
      rw [← ev]
      rfl
  · rintro ρ w' ⟨rfl, x, rfl⟩
    rw [Int.toNat_natCast]
    exact le_w q

theorem sc_first_memory : FnScope ["image", "segment"] ["image"] (defScope (top 19)) := ⟨rfl, rfl, rfl, by decide +kernel, rfl, by decide +kernel, by decide +kernel⟩
def fFirst : DSp := fun ds w P => ∃ I, ds = [imgD I] ∧ I.segs.length ≤ 1000 ∧ P (memD (I.segs.map (·.vals))) w
theorem ok_first_memory (T : Tx K mg) : Kp P w K mg base 1 "first_memory" ["image"] fFirst := by
  have sc := sc_first_memory
  obtain ⟨f, fd, hm, FD⟩ := T.has 10 (i := 19) (x := "first_memory") rfl
  refine kp_of FD hm sc (fun _ _ _ _ _ _ us hl => match us, hl with | [_], _ => rfl) fun cdv A outer s H E hr => ⟨_, (wss_one (ws_ret (we_tupOf (T.fre 2 rfl) (wa_cons (we_lcT (by rfl) sc.nd (we_ix (we_var 0) we_int) (blkOk_by (N := ["image", "segment"]) (sc := defScope (top 19)) (own := [("segment", 1)]) (by decide +kernel)) (fun _ _ _ _ _ => pg_name (i := 1) sc.nd rfl (.inl rfl)) (fun _ _ _ _ _ => (we_ix (we_var 1) we_int))) wa_nil)))), fun ds wd Q hl hF => ?_⟩
  obtain ⟨I, rfl, hn, q⟩ := hF
  refine ⟨_, rfl, fun p hp => ⟨fun k w' => w' = updW wd p (.lst ((I.segs.take k).map fun s => intsD s.vals)), rfl, ?_, ?_⟩⟩
  · rintro k x w' hx rfl
    rw [List.getElem?_map] at hx
    cases hs : I.segs[k]? with
    | none => rw [hs] at hx; cases hx
    | some s =>
      rw [hs] at hx
      cases hx
      refine ⟨intsD s.vals, rfl, _, updW_same, ?_, ?_⟩
      · rw [List.length_map, List.length_take]
        exact Nat.lt_of_le_of_lt (Nat.min_le_right _ _) (Nat.lt_of_le_of_lt hn (by decide))
      · show updW (updW wd p _) p _ = _
        rw [updW_updW, List.take_add_one, hs, List.map_append]
        rfl
  · rintro w' rfl
    rw [List.length_map, List.take_length]
    refine ⟨_, updW_same, wd, LE.new hp, ?_⟩
    unfold memD at q
    rw [List.map_map] at q
    exact q

theorem sc_word_at : FnScope ["image", "address"] ["image", "address"] (defScope (top 20)) := ⟨rfl, rfl, rfl, by decide +kernel, rfl, by decide +kernel, by decide +kernel⟩
def fWordAt : DSp := fun ds w P => ∃ I a k, ds = [imgD I, .int a] ∧ I.segs.length ≤ 1000 ∧ (∀ s ∈ I.segs, SegOk s) ∧ homeM I.segs a 4 = some k ∧ P (.int (rdM (segOf I k).vals (a - (segOf I k).base).toNat 4)) w
theorem ok_word_at (T : Tx K mg) (k_load_word : Kp P w K mg base 2 "load_word" ["image", "memory", "address", "count"] fLoadWord) (k_first_memory : Kp P w K mg base 1 "first_memory" ["image"] fFirst) : Kp P w K mg base 3 "word_at" ["image", "address"] fWordAt := by
  have sc := sc_word_at
  obtain ⟨f, fd, hm, FD⟩ := T.has 11 (i := 20) (x := "word_at") rfl
  refine kp_of FD hm sc (fun _ _ _ _ _ _ us hl => match us, hl with | [_, _], _ => rfl) fun cdv A outer s H E hr => ⟨_, (wss_one (ws_ret (we_call (k_load_word.mono (by decide)) hr (wa_cons (we_var 0) (wa_cons (we_call (k_first_memory.mono (by decide)) hr (wa_cons (we_var 0) wa_nil)) (wa_cons (we_var 1) (wa_cons we_int wa_nil))))))), fun ds wd Q hl hF => ?_⟩
  obtain ⟨I, a, k, rfl, hn, hb, eh, q⟩ := hF
  obtain ⟨s, hs, hin⟩ := home_some eh
  rw [segOf_at hs] at q
  refine ⟨rfl, I, rfl, hn, rfl, I, I.segs.map (·.vals), a, 4, 4, k, s.vals, rfl, rfl, by decide, hn, eh, ?_, ?_, (hb s (List.mem_of_getElem? hs)).bs, ?_⟩
  · rw [List.getElem?_map, hs] <;> rfl
  · rw [segOf_at hs]
  · rw [segOf_at hs]
    exact le_w q
end
end Rs
set_option maxHeartbeats 4000000
/-! The program's defs: store_word. -/
namespace Rs
open PySem PySem.Spec PyProof.Rows L2
theorem cut_to (xs : List D) (n : Nat) : cutD xs none (some ((n : Nat) : Int)) = xs.take n := by
  unfold cutD
  rw [HT.sIx_none, HT.sIx_nat, List.drop_zero, Nat.sub_zero]
  by_cases h : n ≤ xs.length
  · rw [Nat.min_eq_left h]
  · rw [Nat.min_eq_right (by omega), List.take_length, List.take_of_length_le (by omega)]
theorem cut_from (xs : List D) (n : Nat) : cutD xs (some ((n : Nat) : Int)) none = xs.drop n := by
  unfold cutD
  rw [HT.sIx_none, HT.sIx_nat]
  by_cases h : n ≤ xs.length
  · rw [Nat.min_eq_left h, List.take_of_length_le (by rw [List.length_drop]; exact Nat.le_refl _)]
  · rw [Nat.min_eq_right (by omega), Nat.sub_self, List.take_zero, List.drop_eq_nil_of_le (by omega)]
theorem sz2 {n : Nat} (h : n ≤ 3000000) : n ≤ sizeLine := Nat.le_trans h (by decide)
theorem bytesM_len (v : Int) (n : Nat) : (bytesM v n).length = n := by unfold bytesM; rw [List.length_map, List.length_range]
section
variable {P : Program} {w : World} {K : PySem.W.Frag} {mg : Str → Option Value} {base : Heap}

theorem sc_store_word : FnScope ["image", "memory", "address", "count", "value", "k", "at", "row", "changed", "j"] ["image", "memory", "address", "count", "value"] (defScope (top 18)) := ⟨rfl, rfl, rfl, by decide +kernel, rfl, by decide +kernel, by decide +kernel⟩
def fStoreWord : DSp := fun ds w P => ∃ I m a c v n k row, ds = [imgD I, memD m, .int a, .int c, .int v] ∧ c = ((n : Nat) : Int) ∧ n ≤ 4 ∧ I.segs.length ≤ 1000 ∧ m.length ≤ 1000 ∧ homeM I.segs a c = some k ∧ m[k]? = some row ∧ row.length ≤ 1000000 ∧
  P (memD (m.set k (wrM row (a - (segOf I k).base).toNat n v))) w
theorem ok_store_word (T : Tx K mg) (k_find_segment : Kp P w K mg base 1 "find_segment" ["image", "address", "count"] fFind) : Kp P w K mg base 2 "store_word" ["image", "memory", "address", "count", "value"] fStoreWord := by
  have sc := sc_store_word
  obtain ⟨f, fd, hm, FD⟩ := T.has 9 (i := 18) (x := "store_word") rfl
  refine kp_of FD hm sc (fun _ _ _ _ _ _ us hl => match us, hl with | [_, _, _, _, _], _ => rfl) fun cdv A outer s H E hr => ⟨_, (wss_cons (ws_set (i := 5) sc.nd (we_call (k_find_segment.mono (by decide)) hr (wa_cons (we_var 0) (wa_cons (we_var 2) (wa_cons (we_var 3) wa_nil)))))
    (wss_cons (ws_set (i := 6) sc.nd (we_sub (we_var 2) (we_ix (we_ix (we_ix (we_var 0) we_int) (we_var 5)) we_int)))
    (wss_cons (ws_set (i := 7) sc.nd (we_tupOf (T.fre 2 rfl) (wa_cons (we_lcR (by rfl) sc.nd (T.fre 1 rfl) (we_var 3) (blkOk_by (N := ["image", "memory", "address", "count", "value", "k", "at", "row", "changed", "j"]) (sc := defScope (top 18)) (own := [("j", 9)]) (by decide +kernel)) (fun _ _ _ _ _ => pg_name (i := 9) sc.nd rfl (.inl rfl)) (fun _ _ _ _ _ => (we_band (we_shr (we_var 4) (we_mul we_int (we_var 9))) we_int))) wa_nil)))
    (wss_cons (ws_set (i := 8) sc.nd (we_add (we_add (we_sl (we_ix (we_var 1) (we_var 5)) wo_none (wo_some (we_var 6))) (we_var 7)) (we_sl (we_ix (we_var 1) (we_var 5)) (wo_some (we_add (we_var 6) (we_var 3))) wo_none)))
    (wss_one (ws_ret (we_add (we_add (we_sl (we_var 1) wo_none (wo_some (we_var 5))) (we_tup (wa_cons (we_var 8) wa_nil))) (we_sl (we_var 1) (wo_some (we_add (we_var 5) we_int)) wo_none)))))))), fun ds wd Q hl hF => ?_⟩
  obtain ⟨I, m, a, c, v, n, k, row, rfl, rfl, hn4, hns, hml, eh, hm2, hlen, q⟩ := hF
  obtain ⟨s, hs, hin⟩ := home_some eh
  rw [segOf_at hs] at q
  obtain ⟨g0, g1, g2⟩ := inSeg_place hin rfl
  refine ⟨rfl, I, a, _, rfl, hns, ?_⟩
  rw [eh]
  refine ⟨_, rfl, _, atI_map hs, _, rfl, ?_, ?_, fun p hp => ⟨fun j w' => w' = updW wd p (.lst ((bytesM v j).map D.int)), rfl, ?_, ?_⟩⟩
  · show -(2 ^ 62) ≤ ((n : Nat) : Int)
    omega
  · show ((n : Nat) : Int) < 2 ^ 62
    omega
  · rintro j w' hj rfl
    have hj' : j < n := by rw [Int.toNat_natCast] at hj; exact hj
    have e8 : ((8 : Int) * (j : Int)).toNat = 8 * j := by omega
    refine ⟨.inl (by decide), ?_, _, updW_same, ?_, ?_⟩
    · show (0 : Int) ≤ 8 * (j : Int)
      omega
    · rw [List.length_map, bytesM_len]
      exact Nat.lt_of_lt_of_le (show j < 4 by omega) (by decide)
    · show updW (updW wd p _) p (.lst ((bytesM v j).map D.int ++ [.int (Builtin.bitAnd (v / 2 ^ ((8 : Int) * (j : Int)).toNat) 255)])) = _
      rw [updW_updW, e8, m8]
      have e : bytesM v (j + 1) = bytesM v j ++ [v / 2 ^ (8 * j) % 256] := by
        unfold bytesM
        rw [List.range_succ, List.map_append]
        rfl
      rw [e, List.map_append]
      rfl
  · rintro w' rfl
    rw [Int.toNat_natCast]
    refine ⟨_, updW_same, _, atI_map hm2, ?_⟩
    have lr : ((row.map D.int).take (a - s.base).toNat).length ≤ 1000000 := by
      rw [List.length_take, List.length_map]
      omega
    have ld : ((row.map D.int).drop ((a - s.base).toNat + n)).length ≤ 1000000 := by
      rw [List.length_drop, List.length_map]
      omega
    have lb : ((bytesM v n).map D.int).length ≤ 4 := by rw [List.length_map, bytesM_len]; exact hn4
    have c1 : cutD (row.map D.int) none (some (a - s.base)) = (row.map D.int).take (a - s.base).toNat := by
      have z := cut_to (row.map D.int) (a - s.base).toNat
      rw [← g2] at z
      exact z
    have c2 : cutD (row.map D.int) (some (a - s.base + ((n : Nat) : Int))) none = (row.map D.int).drop ((a - s.base).toNat + n) := by
      have e : a - s.base + ((n : Nat) : Int) = (((a - s.base).toNat + n : Nat) : Int) := by omega
      rw [e, cut_from]
    have c3 : cutD (m.map intsD) none (some ((k : Nat) : Int)) = (m.map intsD).take k := cut_to _ _
    have c4 : cutD (m.map intsD) (some (((k : Nat) : Int) + 1)) none = (m.map intsD).drop (k + 1) := cut_from _ (k + 1)
    have lm : ((m.map intsD).take k).length ≤ 1000 := by
      rw [List.length_take, List.length_map]
      omega
    have lm2 : ((m.map intsD).drop (k + 1)).length ≤ 1000 := by
      rw [List.length_drop, List.length_map]
      omega
    rw [← c1] at lr
    rw [← c2] at ld
    rw [← c3] at lm
    rw [← c4] at lm2
    refine ⟨sz2 ?_, _, atI_map hm2, sz2 ?_, sz rfl, sz2 ?_, sz2 ?_, wd, LE.new hp, ?_⟩
    · show (cutD (row.map D.int) none (some (a - s.base))).length + ((bytesM v n).map D.int).length ≤ _
      omega
    · show (cutD (row.map D.int) none (some (a - s.base)) ++ (bytesM v n).map D.int).length + (cutD (row.map D.int) (some (a - s.base + ((n : Nat) : Int))) none).length ≤ _
      rw [List.length_append]
      omega
    · show (cutD (m.map intsD) none (some ((k : Nat) : Int))).length + 1 ≤ _
      omega
    · show (cutD (m.map intsD) none (some ((k : Nat) : Int)) ++ [_]).length + (cutD (m.map intsD) (some (((k : Nat) : Int) + 1)) none).length ≤ _
      rw [List.length_append, List.length_singleton]
      omega
    have ek : k < m.length := (List.getElem?_eq_some_iff.mp hm2).1
    have e : memD (m.set k (wrM row (a - s.base).toNat n v)) = .tup (cutD (m.map intsD) none (some ((k : Nat) : Int)) ++ [.tup (cutD (row.map D.int) none (some (a - s.base)) ++ (bytesM v n).map D.int ++ cutD (row.map D.int) (some (a - s.base + ((n : Nat) : Int))) none)] ++ cutD (m.map intsD) (some (((k : Nat) : Int) + 1)) none) := by
      rw [c1, c2, c3, c4]
      unfold memD wrM
      rw [List.set_eq_take_append_cons_drop, if_pos ek, List.map_append, List.map_cons, List.map_take, List.map_drop]
      unfold intsD
      rw [List.map_append, List.map_append, List.map_take, List.map_drop]
      simp only [List.append_assoc, List.cons_append, List.nil_append]
    rw [e] at q
    exact q
end
end Rs
set_option maxHeartbeats 4000000
/-! The program's defs: arithmetic of the machine. -/
namespace Rs
open PySem PySem.Spec PyProof.Rows L2
theorem op_cut : ∀ k, k < 21 → 13 ≤ k → cutS (opS k) none (some ((opS k).length - 1)) = opS (aluB k) := by decide +kernel
theorem op_len : ∀ k, k < 38 → (opS k).length ≤ 10 := by decide +kernel
theorem aluB_lt {k : Nat} (h : k < 21) : aluB k < 13 := by unfold aluB; split <;> (try split) <;> omega
theorem qd {Q : D → Wd → Prop} {a b : D} {w : Wd} (h : Q a w) (e : b = a) : Q b w := e ▸ h
theorem aeq {k : Nat} (hk : k < 38) (j : Nat) (hj : j < 38) {b : Bool} (h : decide (opS k = opS j) = b) : decide (k = j) = b := by rw [← op_eq_at k hk j hj]; exact h
theorem sh_eq (y : Int) : (y % 32).toNat = sh y := rfl
theorem cpw {x y : Int} (h : -10000000000 ≤ x) (h2 : x ≤ 10000000000) : CPow x (y % 32) := cpow (by omega) (by omega) (by omega) (by omega)
section
variable {P : Program} {w : World} {K : PySem.W.Frag} {mg : Str → Option Value} {base : Heap}

theorem sc_signed : FnScope ["x"] ["x"] (defScope (top 22)) := ⟨rfl, rfl, rfl, by decide +kernel, rfl, by decide +kernel, by decide +kernel⟩
def fSigned : DSp := fun ds w P => ∃ x, ds = [.int x] ∧ Word x ∧ P (.int (sgn32 x)) w
theorem ok_signed (T : Tx K mg) : Kp P w K mg base 1 "signed" ["x"] fSigned := by
  have sc := sc_signed
  obtain ⟨f, fd, hm, FD⟩ := T.has 12 (i := 22) (x := "signed") rfl
  refine kp_of FD hm sc (fun _ _ _ _ _ _ us hl => match us, hl with | [_], _ => rfl) fun cdv A outer s H E hr => ⟨_, (wss_cons (ws_if (wt_truI (we_shr (we_var 0) we_int)) (wss_one (ws_ret (we_sub (we_var 0) (we_gInt T.word)))) wss_nil)
    (wss_one (ws_ret (we_var 0)))), fun ds wd Q hl hF => ?_⟩
  obtain ⟨x, rfl, ⟨h0, h1⟩, q⟩ := hF
  unfold sgn32 at q
  refine ⟨(by decide : (0 : Int) ≤ 31), fun h => ?_, fun h => ?_⟩
  · have h' : (x / 2147483648 != 0) = true := h
    have h2 : ¬ x / 2147483648 = 0 := by simpa using h'
    rw [if_pos (show (2147483648 : Int) ≤ x by omega)] at q
    exact le_w q
  · have h' : (x / 2147483648 != 0) = false := h
    have h2 : x / 2147483648 = 0 := by simpa using h'
    rw [if_neg (show ¬ (2147483648 : Int) ≤ x by omega)] at q
    exact le_w q

theorem sc_compute_rest : FnScope ["op", "x", "y"] ["op", "x", "y"] (defScope (top 24)) := ⟨rfl, rfl, rfl, by decide +kernel, rfl, by decide +kernel, by decide +kernel⟩
def fRest : DSp := fun ds w P => ∃ k x y, ds = [.str (opS k), .int x, .int y] ∧ 6 ≤ k ∧ k < 13 ∧ Word x ∧ Word y ∧ P (.int (alu k x y)) w
theorem ok_compute_rest (T : Tx K mg) (k_signed : Kp P w K mg base 1 "signed" ["x"] fSigned) : Kp P w K mg base 2 "compute_rest" ["op", "x", "y"] fRest := by
  have sc := sc_compute_rest
  obtain ⟨f, fd, hm, FD⟩ := T.has 14 (i := 24) (x := "compute_rest") rfl
  refine kp_of FD hm sc (fun _ _ _ _ _ _ us hl => match us, hl with | [_, _, _], _ => rfl) fun cdv A outer s H E hr => ⟨_, (wss_cons (ws_if (wt_eq hr (we_var 0) we_str) (wss_one (ws_ret (we_band (we_shl (we_var 1) (we_band (we_var 2) we_int)) (we_sub (we_gInt T.word) we_int)))) wss_nil)
    (wss_cons (ws_if (wt_eq hr (we_var 0) we_str) (wss_one (ws_ret (we_shr (we_var 1) (we_band (we_var 2) we_int)))) wss_nil)
    (wss_cons (ws_if (wt_eq hr (we_var 0) we_str) (wss_one (ws_ret (we_band (we_shr (we_call (k_signed.mono (by decide)) hr (wa_cons (we_var 1) wa_nil)) (we_band (we_var 2) we_int)) (we_sub (we_gInt T.word) we_int)))) wss_nil)
    (wss_cons (ws_if (wt_eq hr (we_var 0) we_str) (wss_one (ws_ret (we_if (wt_lt (we_call (k_signed.mono (by decide)) hr (wa_cons (we_var 1) wa_nil)) (we_call (k_signed.mono (by decide)) hr (wa_cons (we_var 2) wa_nil))) we_int we_int))) wss_nil)
    (wss_cons (ws_if (wt_eq hr (we_var 0) we_str) (wss_one (ws_ret (we_if (wt_lt (we_var 1) (we_var 2)) we_int we_int))) wss_nil)
    (wss_cons (ws_if (wt_eq hr (we_var 0) we_str) (wss_one (ws_ret (we_if (wt_eq hr (we_var 2) we_int) (we_sub (we_gInt T.word) we_int) (we_fdiv (we_var 1) (we_var 2))))) wss_nil)
    (wss_one (ws_ret (we_if (wt_eq hr (we_var 2) we_int) (we_var 1) (we_sub (we_var 1) (we_mul (we_fdiv (we_var 1) (we_var 2)) (we_var 2)))))))))))), fun ds wd Q hl hF => ?_⟩
  obtain ⟨k, x, y, rfl, hk6, hk13, hx, hy, q⟩ := hF
  have hk : k < 38 := by omega
  obtain ⟨x0, x1⟩ := hx
  obtain ⟨y0, y1⟩ := hy
  have s0 : -2147483648 ≤ sgn32 x := by unfold sgn32; split <;> omega
  have s1 : sgn32 x ≤ 2147483648 := by unfold sgn32; split <;> omega
  unfold alu at q
  refine ⟨fun h => ?_, fun h => ⟨fun h2 => ?_, fun h2 => ⟨fun h3 => ?_, fun h3 => ⟨fun h4 => ?_, fun h4 => ⟨fun h5 => ?_, fun h5 => ⟨fun h6 => ?_, fun h6 => ?_⟩⟩⟩⟩⟩⟩
  · have e := of_decide_eq_true (aeq hk 6 (by decide) h)
    subst e
    show CPow x (Builtin.bitAnd y 31) ∧ _
    rw [m5]
    refine ⟨cpw (by omega) (by omega), le_w (qi q ?_)⟩
    exact m32 _
  · have e := of_decide_eq_true (aeq hk 7 (by decide) h2)
    subst e
    show 0 ≤ Builtin.bitAnd y 31 ∧ _
    rw [m5]
    exact ⟨by omega, le_w q⟩
  · have e := of_decide_eq_true (aeq hk 8 (by decide) h3)
    subst e
    refine ⟨rfl, x, rfl, ⟨x0, x1⟩, ?_⟩
    show 0 ≤ Builtin.bitAnd y 31 ∧ _
    rw [m5]
    refine ⟨by omega, le_w (qi q ?_)⟩
    exact m32 _
  · have e := of_decide_eq_true (aeq hk 9 (by decide) h4)
    subst e
    refine ⟨rfl, x, rfl, ⟨x0, x1⟩, rfl, y, rfl, ⟨y0, y1⟩, fun g => ?_, fun g => ?_⟩
    · have q' : Q (.int (if sgn32 x < sgn32 y then 1 else 0)) wd := q
      rw [if_pos (of_decide_eq_true g)] at q'
      exact le_w q'
    · have q' : Q (.int (if sgn32 x < sgn32 y then 1 else 0)) wd := q
      rw [if_neg (of_decide_eq_false g)] at q'
      exact le_w q'
  · have e := of_decide_eq_true (aeq hk 10 (by decide) h5)
    subst e
    have q' : Q (.int (if x < y then 1 else 0)) wd := q
    refine ⟨fun g => ?_, fun g => ?_⟩
    · rw [if_pos (of_decide_eq_true g)] at q'
      exact le_w q'
    · rw [if_neg (of_decide_eq_false g)] at q'
      exact le_w q'
  · have e := of_decide_eq_true (aeq hk 11 (by decide) h6)
    subst e
    have q' : Q (.int (if y = 0 then 4294967296 - 1 else x / y)) wd := q
    refine ⟨fun g => ?_, fun g => ?_⟩
    · rw [if_pos (of_decide_eq_true g)] at q'
      exact le_w q'
    · have g' := of_decide_eq_false g
      rw [if_neg g'] at q'
      exact ⟨wide_div (b := 33) (by omega) (by omega) (by decide) (by decide), le_w q'⟩
  · have e1 := of_decide_eq_false (aeq hk 6 (by decide) h)
    have e2 := of_decide_eq_false (aeq hk 7 (by decide) h2)
    have e3 := of_decide_eq_false (aeq hk 8 (by decide) h3)
    have e4 := of_decide_eq_false (aeq hk 9 (by decide) h4)
    have e5 := of_decide_eq_false (aeq hk 10 (by decide) h5)
    have e6 := of_decide_eq_false (aeq hk 11 (by decide) h6)
    have e : k = 12 := by omega
    subst e
    have q' : Q (.int (if y = 0 then x else x - x / y * y)) wd := q
    refine ⟨fun g => ?_, fun g => ?_⟩
    · rw [if_pos (of_decide_eq_true g)] at q'
      exact le_w q'
    · have g' := of_decide_eq_false g
      rw [if_neg g'] at q'
      refine ⟨wide_div (b := 33) (by omega) (by omega) (by decide) (by decide), .inr ⟨by omega, by omega⟩, le_w q'⟩

theorem sc_compute : FnScope ["op", "x", "y"] ["op", "x", "y"] (defScope (top 23)) := ⟨rfl, rfl, rfl, by decide +kernel, rfl, by decide +kernel, by decide +kernel⟩
def fCompute : DSp := fun ds w P => ∃ k x y, ds = [.str (opS k), .int x, .int y] ∧ k < 21 ∧ Word x ∧ Word y ∧ P (.int (alu (aluB k) x y)) w
theorem ok_compute (T : Tx K mg) (k_compute_rest : Kp P w K mg base 2 "compute_rest" ["op", "x", "y"] fRest) : Kp P w K mg base 3 "compute" ["op", "x", "y"] fCompute := by
  have sc := sc_compute
  obtain ⟨f, fd, hm, FD⟩ := T.has 13 (i := 23) (x := "compute") rfl
  obtain ⟨q_IMMEDIATE, t_IMMEDIATE⟩ := T.tup 1 (x := "IMMEDIATE") (ss := cIMMEDIATE) rfl
  refine kp_of FD hm sc (fun _ _ _ _ _ _ us hl => match us, hl with | [_, _, _], _ => rfl) fun cdv A outer s H E hr => ⟨_, (wss_cut (ws_if (wt_in (we_var 0) (we_gTup t_IMMEDIATE.1 t_IMMEDIATE.2.1)) (wss_one (ws_set (i := 0) sc.nd (we_sl (we_var 0) wo_none (wo_some (we_sub (we_len (T.fre 0 rfl) (wa_cons (we_var 0) wa_nil)) we_int))))) wss_nil)
    (wss_cons (ws_if (wt_eq hr (we_var 0) we_str) (wss_one (ws_ret (we_band (we_add (we_var 1) (we_var 2)) (we_sub (we_gInt T.word) we_int)))) wss_nil)
    (wss_cons (ws_if (wt_eq hr (we_var 0) we_str) (wss_one (ws_ret (we_band (we_sub (we_var 1) (we_var 2)) (we_sub (we_gInt T.word) we_int)))) wss_nil)
    (wss_cons (ws_if (wt_eq hr (we_var 0) we_str) (wss_one (ws_ret (we_band (we_mul (we_var 1) (we_var 2)) (we_sub (we_gInt T.word) we_int)))) wss_nil)
    (wss_cons (ws_if (wt_eq hr (we_var 0) we_str) (wss_one (ws_ret (we_band (we_var 1) (we_var 2)))) wss_nil)
    (wss_cons (ws_if (wt_eq hr (we_var 0) we_str) (wss_one (ws_ret (we_bor (we_var 1) (we_var 2)))) wss_nil)
    (wss_cons (ws_if (wt_eq hr (we_var 0) we_str) (wss_one (ws_ret (we_bxor (we_var 1) (we_var 2)))) wss_nil)
    (wss_one (ws_ret (we_call (k_compute_rest.mono (by decide)) hr (wa_cons (we_var 0) (wa_cons (we_var 1) (wa_cons (we_var 2) wa_nil))))))))))))), fun ds wd Q hl hF => ?_⟩
  obtain ⟨k, x, y, rfl, hk21, hx, hy, q⟩ := hF
  have hk : k < 38 := by omega
  refine ⟨fun ρ w' => w' = wd ∧ ρ = [some (.str (opS (aluB k))), some (.int x), some (.int y)], ⟨rfl, fun h => ?_, fun h => ?_⟩, ?_⟩
  · rw [in_IMM _ hk] at h
    have h' := of_decide_eq_true h
    have e := op_cut k hk21 h'.1
    refine ⟨sz2 (Nat.le_trans (op_len k hk) (by decide)), sz2 (Nat.le_trans (op_len k hk) (by decide)), rfl, ?_⟩
    show [some (D.str (cutS (opS k) none (some ((((opS k).length : Nat) : Int) - 1)))), _, _] = _
    rw [e]
  · rw [in_IMM _ hk] at h
    have h' := of_decide_eq_false h
    have e : aluB k = k := by unfold aluB; rw [if_pos (by omega)]
    rw [e]
    exact ⟨rfl, rfl⟩
  · rintro ρ w' ⟨rfl, rfl⟩
    have hj13 := aluB_lt hk21
    revert q hj13
    generalize aluB k = j
    intro q hj13
    have hj : j < 38 := by omega
    have q0 := q
    obtain ⟨x0, x1⟩ := id hx
    obtain ⟨y0, y1⟩ := id hy
    unfold alu at q
    refine ⟨fun h => ?_, fun h => ⟨fun h2 => ?_, fun h2 => ⟨fun h3 => ?_, fun h3 => ⟨fun h4 => ?_, fun h4 => ⟨fun h5 => ?_, fun h5 => ⟨fun h6 => ?_, fun h6 => ?_⟩⟩⟩⟩⟩⟩
    · have e := of_decide_eq_true (aeq hj 0 (by decide) h)
      subst e
      exact le_w (qi q (m32 _))
    · have e := of_decide_eq_true (aeq hj 1 (by decide) h2)
      subst e
      exact le_w (qi q (m32 _))
    · have e := of_decide_eq_true (aeq hj 2 (by decide) h3)
      subst e
      exact ⟨.inl ⟨by omega, by omega⟩, le_w (qi q (m32 _))⟩
    · have e := of_decide_eq_true (aeq hj 3 (by decide) h4)
      subst e
      exact le_w q
    · have e := of_decide_eq_true (aeq hj 4 (by decide) h5)
      subst e
      exact le_w q
    · have e := of_decide_eq_true (aeq hj 5 (by decide) h6)
      subst e
      exact le_w q
    · have e1 := of_decide_eq_false (aeq hj 0 (by decide) h)
      have e2 := of_decide_eq_false (aeq hj 1 (by decide) h2)
      have e3 := of_decide_eq_false (aeq hj 2 (by decide) h3)
      have e4 := of_decide_eq_false (aeq hj 3 (by decide) h4)
      have e5 := of_decide_eq_false (aeq hj 4 (by decide) h5)
      have e6 := of_decide_eq_false (aeq hj 5 (by decide) h6)
      exact ⟨rfl, j, x, y, rfl, by omega, hj13, hx, hy, le_w q0⟩

theorem sc_holds : FnScope ["op", "x", "y"] ["op", "x", "y"] (defScope (top 25)) := ⟨rfl, rfl, rfl, by decide +kernel, rfl, by decide +kernel, by decide +kernel⟩
def fHolds : DSp := fun ds w P => ∃ k x y, ds = [.str (opS k), .int x, .int y] ∧ 27 ≤ k ∧ k < 33 ∧ Word x ∧ Word y ∧ P (.bl (holdsM k x y)) w
theorem ok_holds (T : Tx K mg) (k_signed : Kp P w K mg base 1 "signed" ["x"] fSigned) : Kp P w K mg base 2 "holds" ["op", "x", "y"] fHolds := by
  have sc := sc_holds
  obtain ⟨f, fd, hm, FD⟩ := T.has 15 (i := 25) (x := "holds") rfl
  refine kp_of FD hm sc (fun _ _ _ _ _ _ us hl => match us, hl with | [_, _, _], _ => rfl) fun cdv A outer s H E hr => ⟨_, (wss_cons (ws_if (wt_eq hr (we_var 0) we_str) (wss_one (ws_ret (we_eq hr (we_var 1) (we_var 2)))) wss_nil)
    (wss_cons (ws_if (wt_eq hr (we_var 0) we_str) (wss_one (ws_ret (we_ne hr (we_var 1) (we_var 2)))) wss_nil)
    (wss_cons (ws_if (wt_eq hr (we_var 0) we_str) (wss_one (ws_ret (we_lt (we_call (k_signed.mono (by decide)) hr (wa_cons (we_var 1) wa_nil)) (we_call (k_signed.mono (by decide)) hr (wa_cons (we_var 2) wa_nil))))) wss_nil)
    (wss_cons (ws_if (wt_eq hr (we_var 0) we_str) (wss_one (ws_ret (we_ge (we_call (k_signed.mono (by decide)) hr (wa_cons (we_var 1) wa_nil)) (we_call (k_signed.mono (by decide)) hr (wa_cons (we_var 2) wa_nil))))) wss_nil)
    (wss_cons (ws_if (wt_eq hr (we_var 0) we_str) (wss_one (ws_ret (we_lt (we_var 1) (we_var 2)))) wss_nil)
    (wss_one (ws_ret (we_ge (we_var 1) (we_var 2))))))))), fun ds wd Q hl hF => ?_⟩
  obtain ⟨k, x, y, rfl, hk1, hk2, hx, hy, q⟩ := hF
  have hk : k < 38 := by omega
  unfold holdsM at q
  refine ⟨fun h => ?_, fun h => ⟨fun h2 => ?_, fun h2 => ⟨fun h3 => ?_, fun h3 => ⟨fun h4 => ?_, fun h4 => ⟨fun h5 => ?_, fun h5 => ?_⟩⟩⟩⟩⟩
  · have e := of_decide_eq_true (aeq hk 27 (by decide) h)
    subst e
    exact le_w q
  · have e := of_decide_eq_true (aeq hk 28 (by decide) h2)
    subst e
    exact le_w q
  · have e := of_decide_eq_true (aeq hk 29 (by decide) h3)
    subst e
    exact ⟨rfl, x, rfl, hx, rfl, y, rfl, hy, le_w q⟩
  · have e := of_decide_eq_true (aeq hk 30 (by decide) h4)
    subst e
    exact ⟨rfl, x, rfl, hx, rfl, y, rfl, hy, le_w q⟩
  · have e := of_decide_eq_true (aeq hk 31 (by decide) h5)
    subst e
    exact le_w q
  · have e1 := of_decide_eq_false (aeq hk 27 (by decide) h)
    have e2 := of_decide_eq_false (aeq hk 28 (by decide) h2)
    have e3 := of_decide_eq_false (aeq hk 29 (by decide) h3)
    have e4 := of_decide_eq_false (aeq hk 30 (by decide) h4)
    have e5 := of_decide_eq_false (aeq hk 31 (by decide) h5)
    have e : k = 32 := by omega
    subst e
    exact le_w q

theorem sc_start : FnScope ["image"] ["image"] (defScope (top 26)) := ⟨rfl, rfl, rfl, by decide +kernel, rfl, by decide +kernel, by decide +kernel⟩
def fStart : DSp := fun ds w P => ∃ I, ds = [imgD I] ∧ I.segs.length ≤ 1000 ∧ P (msD (startM I)) w
theorem ok_start (T : Tx K mg) (k_first_memory : Kp P w K mg base 1 "first_memory" ["image"] fFirst) : Kp P w K mg base 2 "start" ["image"] fStart := by
  have sc := sc_start
  obtain ⟨f, fd, hm, FD⟩ := T.has 16 (i := 26) (x := "start") rfl
  refine kp_of FD hm sc (fun _ _ _ _ _ _ us hl => match us, hl with | [_], _ => rfl) fun cdv A outer s H E hr => ⟨_, (wss_one (ws_ret (we_tup (wa_cons (we_mul (we_tup (wa_cons we_int wa_nil)) we_int) (wa_cons (we_ix (we_var 0) we_int) (wa_cons (we_call (k_first_memory.mono (by decide)) hr (wa_cons (we_var 0) wa_nil)) (wa_cons we_int (wa_cons (we_tup wa_nil) (wa_cons (we_tup (wa_cons we_str wa_nil)) wa_nil))))))))), fun ds wd Q hl hF => ?_⟩
  obtain ⟨I, rfl, hn, q⟩ := hF
  exact ⟨sz rfl, (by intro z; cases z), by decide, by decide, by decide, _, rfl, rfl, I, rfl, hn, sz rfl, sz rfl, sz rfl, le_w q⟩

theorem sc_with_register : FnScope ["registers", "number", "value"] ["registers", "number", "value"] (defScope (top 27)) := ⟨rfl, rfl, rfl, by decide +kernel, rfl, by decide +kernel, by decide +kernel⟩
def fWith : DSp := fun ds w P => ∃ regs n v, ds = [intsD regs, .int n, .int v] ∧ regs.length = 16 ∧ 0 ≤ n ∧ n < 16 ∧ P (intsD (setR regs n v)) w
theorem ok_with_register (T : Tx K mg) : Kp P w K mg base 1 "with_register" ["registers", "number", "value"] fWith := by
  have sc := sc_with_register
  obtain ⟨f, fd, hm, FD⟩ := T.has 17 (i := 27) (x := "with_register") rfl
  refine kp_of FD hm sc (fun _ _ _ _ _ _ us hl => match us, hl with | [_, _, _], _ => rfl) fun cdv A outer s H E hr => ⟨_, (wss_cons (ws_if (wt_eq hr (we_var 1) we_int) (wss_one (ws_ret (we_var 0))) wss_nil)
    (wss_one (ws_ret (we_add (we_add (we_sl (we_var 0) wo_none (wo_some (we_var 1))) (we_tup (wa_cons (we_var 2) wa_nil))) (we_sl (we_var 0) (wo_some (we_add (we_var 1) we_int)) wo_none))))), fun ds wd Q hl hF => ?_⟩
  obtain ⟨regs, n, v, rfl, hr16, n0, n1, q⟩ := hF
  unfold setR at q
  refine ⟨fun h => ?_, fun h => ?_⟩
  · rw [if_pos (of_decide_eq_true h)] at q
    exact le_w q
  · rw [if_neg (of_decide_eq_false h)] at q
    obtain ⟨m, rfl⟩ := Int.eq_ofNat_of_zero_le n0
    rw [Int.toNat_natCast] at q
    have c1 : cutD (regs.map D.int) none (some ((m : Nat) : Int)) = (regs.map D.int).take m := cut_to _ _
    have c2 : cutD (regs.map D.int) (some (((m : Nat) : Int) + 1)) none = (regs.map D.int).drop (m + 1) := cut_from _ (m + 1)
    have l1 : (cutD (regs.map D.int) none (some ((m : Nat) : Int))).length ≤ 16 := by
      rw [c1, List.length_take, List.length_map]
      omega
    have l2 : (cutD (regs.map D.int) (some (((m : Nat) : Int) + 1)) none).length ≤ 16 := by
      rw [c2, List.length_drop, List.length_map]
      omega
    refine ⟨sz rfl, sz2 ?_, sz2 ?_, le_w (qd q ?_)⟩
    · show (cutD (regs.map D.int) none (some ((m : Nat) : Int))).length + 1 ≤ _
      omega
    · show (cutD (regs.map D.int) none (some ((m : Nat) : Int)) ++ [_]).length + (cutD (regs.map D.int) (some (((m : Nat) : Int) + 1)) none).length ≤ _
      rw [List.length_append, List.length_singleton]
      omega
    · show D.tup (cutD (regs.map D.int) none (some ((m : Nat) : Int)) ++ [.int v] ++ cutD (regs.map D.int) (some (((m : Nat) : Int) + 1)) none) = _
      rw [c1, c2]
      unfold intsD
      rw [List.set_eq_take_append_cons_drop, if_pos (by omega), List.map_append, List.map_cons, List.map_take, List.map_drop]
      simp only [List.append_assoc, List.cons_append, List.nil_append]

theorem sc_size_of : FnScope ["op"] ["op"] (defScope (top 28)) := ⟨rfl, rfl, rfl, by decide +kernel, rfl, by decide +kernel, by decide +kernel⟩
def fSize : DSp := fun ds w P => ∃ k, ds = [.str (opS k)] ∧ k < 38 ∧ P (.int ((sizeM k : Nat) : Int)) w
theorem ok_size_of (T : Tx K mg) : Kp P w K mg base 1 "size_of" ["op"] fSize := by
  have sc := sc_size_of
  obtain ⟨f, fd, hm, FD⟩ := T.has 18 (i := 28) (x := "size_of") rfl
  refine kp_of FD hm sc (fun _ _ _ _ _ _ us hl => match us, hl with | [_], _ => rfl) fun cdv A outer s H E hr => ⟨_, (wss_one (ws_ret (we_if (wt_in (we_var 0) (we_tup (wa_cons we_str (wa_cons we_str wa_nil)))) we_int we_int))), fun ds wd Q hl hF => ?_⟩
  obtain ⟨k, rfl, hk, q⟩ := hF
  unfold sizeM at q
  refine ⟨sz rfl, rfl, fun h => ?_, fun h => ?_⟩
  · rw [in_ws _ hk] at h
    rw [if_pos (of_decide_eq_true h)] at q
    exact le_w q
  · rw [in_ws _ hk] at h
    rw [if_neg (of_decide_eq_false h)] at q
    exact le_w q

theorem sc_loaded : FnScope ["image", "memory", "op", "address", "value"] ["image", "memory", "op", "address"] (defScope (top 29)) := ⟨rfl, rfl, rfl, by decide +kernel, rfl, by decide +kernel, by decide +kernel⟩
def fLoaded : DSp := fun ds w P => ∃ I m a op k row, ds = [imgD I, memD m, .str (opS op), .int a] ∧ op < 38 ∧ I.segs.length ≤ 1000 ∧ homeM I.segs a ((sizeM op : Nat) : Int) = some k ∧ m[k]? = some row ∧ row.length = (segOf I k).vals.length ∧ (∀ x ∈ row, Byte x) ∧
  P (.int (loadV op (rdM row (a - (segOf I k).base).toNat (sizeM op)))) w
theorem ok_loaded (T : Tx K mg) (k_load_word : Kp P w K mg base 2 "load_word" ["image", "memory", "address", "count"] fLoadWord) (k_size_of : Kp P w K mg base 1 "size_of" ["op"] fSize) : Kp P w K mg base 3 "loaded" ["image", "memory", "op", "address"] fLoaded := by
  have sc := sc_loaded
  obtain ⟨f, fd, hm, FD⟩ := T.has 19 (i := 29) (x := "loaded") rfl
  refine kp_of FD hm sc (fun _ _ _ _ _ _ us hl => match us, hl with | [_, _, _, _], _ => rfl) fun cdv A outer s H E hr => ⟨_, (wss_cons (ws_set (i := 4) sc.nd (we_call (k_load_word.mono (by decide)) hr (wa_cons (we_var 0) (wa_cons (we_var 1) (wa_cons (we_var 3) (wa_cons (we_call (k_size_of.mono (by decide)) hr (wa_cons (we_var 2) wa_nil)) wa_nil))))))
    (wss_cut (ws_if (PW.pt (ww_and (wt_eq hr (we_var 2) we_str) (ww_and1 (wt_ge (we_var 4) we_int)))) (wss_one (ws_aug (i := 4) sc.nd (we_sub (we_gInt T.word) we_int))) wss_nil)
    (wss_one (ws_ret (we_var 4))))), fun ds wd Q hl hF => ?_⟩
  obtain ⟨I, m, a, op, k, row, rfl, hop, hns, eh, hm2, hlen, hb, q⟩ := hF
  have hsz : sizeM op ≤ 4 := by unfold sizeM; split <;> omega
  unfold loadV at q
  refine ⟨rfl, op, rfl, hop, rfl, I, m, a, _, sizeM op, k, row, rfl, rfl, hsz, hns, eh, hm2, hlen, hb, ?_⟩
  generalize rdM row (a - (segOf I k).base).toNat (sizeM op) = v at q ⊢
  refine ⟨fun ρ w' => w' = wd ∧ ρ = [some (imgD I), some (memD m), some (.str (opS op)), some (.int a), some (.int (if op = 23 ∧ 128 ≤ v then v + 4294967040 else v))], ⟨fun h => ⟨fun h2 => ⟨⟨_, rfl⟩, rfl, ?_⟩, fun h2 => ⟨rfl, ?_⟩⟩, fun h => ⟨fun z => absurd (show false = true from z) (by decide), fun _ => ⟨rfl, ?_⟩⟩⟩, ?_⟩
  · rw [if_pos ⟨of_decide_eq_true (aeq hop 23 (by decide) h), of_decide_eq_true h2⟩]
    rfl
  · rw [if_neg (fun z => of_decide_eq_false h2 z.2)]
    rfl
  · rw [if_neg (fun z => of_decide_eq_false (aeq hop 23 (by decide) h) z.1)]
    rfl
  · rintro ρ w' ⟨rfl, rfl⟩
    exact le_w q
end
end Rs
set_option maxHeartbeats 4000000
/-! The program's defs: steps. -/
namespace Rs
open PySem PySem.Spec PyProof.Rows L2
theorem reg_at {I : Img} {data : List Int} {s : MS} (M : MsOk I data s) {a : Int} (h0 : 0 ≤ a) (h1 : a < 16) : atI (s.regs.map D.int) a = some (.int (reg s a)) := by
  obtain ⟨m, rfl⟩ := Int.eq_ofNat_of_zero_le h0
  have hm : m < s.regs.length := by have := M.len; omega
  refine atI_intsD ?_
  unfold reg
  rw [Int.toNat_natCast, List.getD_eq_getElem?_getD, List.getElem?_eq_getElem hm]
  rfl
theorem reg_word {I : Img} {data : List Int} {s : MS} (M : MsOk I data s) {a : Int} (h0 : 0 ≤ a) (h1 : a < 16) : Word (reg s a) := by
  obtain ⟨m, rfl⟩ := Int.eq_ofNat_of_zero_le h0
  have hm : m < s.regs.length := by have := M.len; omega
  unfold reg
  rw [Int.toNat_natCast, List.getD_eq_getElem?_getD, List.getElem?_eq_getElem hm]
  exact M.rw _ (List.getElem_mem hm)
theorem row_at {I : Img} {data : List Int} {s : MS} (M : MsOk I data s) {a c : Int} {k : Nat} (h : homeM I.segs a c = some k) : ∃ row, s.mem[k]? = some row ∧ s.mem.getD k [] = row ∧ row.length = (segOf I k).vals.length ∧ (∀ x ∈ row, Byte x) ∧ k < I.segs.length := by
  obtain ⟨u, hu, _⟩ := home_some h
  have hk : k < I.segs.length := (List.getElem?_eq_some_iff.mp hu).1
  have hm : k < s.mem.length := by rw [M.ml]; exact hk
  refine ⟨s.mem[k], List.getElem?_eq_getElem hm, ?_, M.mr k _ (List.getElem?_eq_getElem hm), M.mb _ (List.getElem_mem hm), hk⟩
  rw [List.getD_eq_getElem?_getD, List.getElem?_eq_getElem hm]
  rfl
theorem size_c (k : Nat) : ((sizeM k : Nat) : Int) = 1 ∨ ((sizeM k : Nat) : Int) = 4 := by unfold sizeM; split <;> omega
theorem loadOk_home {I : Img} {a c : Int} {k : Nat} (h : loadOk I a c = some k) : homeM I.segs a c = some k := by
  unfold loadOk at h
  split at h
  · exact h
  · cases h
theorem storeOk_home {I : Img} {a c : Int} {k : Nat} (h : storeOk I a c = some k) : homeM I.segs a c = some k := by
  unfold storeOk at h
  cases e : loadOk I a c with
  | none => rw [e] at h; cases h
  | some j =>
    rw [e] at h
    have h2 : (if (segOf I j).wr = true then some j else none) = some k := h
    split at h2
    · cases h2; exact loadOk_home e
    · cases h2
section
variable {P : Program} {w : World} {K : PySem.W.Frag} {mg : Str → Option Value} {base : Heap}

theorem sc_access : FnScope ["image", "state", "instruction", "old", "address", "changed", "registers", "pc", "memory", "taken", "out", "end", "op", "first", "base", "offset", "value"] ["image", "state", "instruction", "old"] (defScope (top 30)) := ⟨rfl, rfl, rfl, by decide +kernel, rfl, by decide +kernel, by decide +kernel⟩
def plD (r : Tw ⊕ MS) (s : MS) (old : Int) : D := match r with
  | .inl t => msD { s with en := .trap t old }
  | .inr s' => msD { s' with pc := s.pc + 4 }
def fAccess : DSp := fun ds w P => ∃ I data s i old, ds = [imgD I, msD s, insD i, .int old] ∧ ImgOk I ∧ MsOk I data s ∧ InsOk i ∧ 22 ≤ i.k ∧ i.k ≤ 26 ∧ P (plD (plainM I data s i) s old) w
theorem ok_access (T : Tx K mg) (k_size_of : Kp P w K mg base 1 "size_of" ["op"] fSize) (k_can_load : Kp P w K mg base 2 "can_load" ["image", "address", "count"] fCanLoad) (k_can_store : Kp P w K mg base 2 "can_store" ["image", "address", "count"] fCanStore)
    (k_loaded : Kp P w K mg base 3 "loaded" ["image", "memory", "op", "address"] fLoaded) (k_with_register : Kp P w K mg base 1 "with_register" ["registers", "number", "value"] fWith) (k_store_word : Kp P w K mg base 2 "store_word" ["image", "memory", "address", "count", "value"] fStoreWord) : Kp P w K mg base 4 "access" ["image", "state", "instruction", "old"] fAccess := by
  have sc := sc_access
  obtain ⟨f, fd, hm, FD⟩ := T.has 20 (i := 30) (x := "access") rfl
  obtain ⟨q_LOADS, t_LOADS⟩ := T.tup 2 (x := "LOADS") (ss := cLOADS) rfl
  refine kp_of FD hm sc (fun _ _ _ _ _ _ us hl => match us, hl with | [_, _, _, _], _ => rfl) fun cdv A outer s H E hr => ⟨_, (wss_cons (ws_unp (is := [6, 7, 8, 9, 10, 11]) (by rfl) (we_var 1) (pgs_cons (pg_name (i := 6) sc.nd rfl (.inl rfl)) (pgs_cons (pg_name (i := 7) sc.nd rfl (.inl rfl)) (pgs_cons (pg_name (i := 8) sc.nd rfl (.inl rfl)) (pgs_cons (pg_name (i := 9) sc.nd rfl (.inl rfl)) (pgs_cons (pg_name (i := 10) sc.nd rfl (.inl rfl)) (pgs_cons (pg_name (i := 11) sc.nd rfl (.inl rfl)) pgs_nil)))))))
    (wss_cut (ws_unp (is := [12, 13, 14, 15]) (by rfl) (we_var 2) (pgs_cons (pg_name (i := 12) sc.nd rfl (.inl rfl)) (pgs_cons (pg_name (i := 13) sc.nd rfl (.inl rfl)) (pgs_cons (pg_name (i := 14) sc.nd rfl (.inl rfl)) (pgs_cons (pg_name (i := 15) sc.nd rfl (.inl rfl)) pgs_nil)))))
    (wss_cons (ws_set (i := 4) sc.nd (we_band (we_add (we_ix (we_var 6) (we_var 14)) (we_var 15)) (we_sub (we_gInt T.word) we_int)))
    (wss_cons (ws_if (wt_in (we_var 12) (we_gTup t_LOADS.1 t_LOADS.2.1)) (wss_cons (ws_if (wt_not (wt_val (we_call (k_can_load.mono (by decide)) hr (wa_cons (we_var 0) (wa_cons (we_var 4) (wa_cons (we_call (k_size_of.mono (by decide)) hr (wa_cons (we_var 12) wa_nil)) wa_nil)))))) (wss_one (ws_ret (we_tup (wa_cons (we_var 6) (wa_cons (we_var 7) (wa_cons (we_var 8) (wa_cons (we_var 9) (wa_cons (we_var 10) (wa_cons (we_tup (wa_cons we_str (wa_cons we_str (wa_cons (we_var 3) wa_nil)))) wa_nil))))))))) wss_nil)
    (wss_cons (ws_set (i := 16) sc.nd (we_call (k_loaded.mono (by decide)) hr (wa_cons (we_var 0) (wa_cons (we_var 8) (wa_cons (we_var 12) (wa_cons (we_var 4) wa_nil))))))
    (wss_one (ws_ret (we_tup (wa_cons (we_call (k_with_register.mono (by decide)) hr (wa_cons (we_var 6) (wa_cons (we_var 13) (wa_cons (we_var 16) wa_nil)))) (wa_cons (we_add (we_var 7) we_int) (wa_cons (we_var 8) (wa_cons (we_var 9) (wa_cons (we_var 10) (wa_cons (we_var 11) wa_nil))))))))))) wss_nil)
    (wss_cons (ws_if (wt_not (wt_val (we_call (k_can_store.mono (by decide)) hr (wa_cons (we_var 0) (wa_cons (we_var 4) (wa_cons (we_call (k_size_of.mono (by decide)) hr (wa_cons (we_var 12) wa_nil)) wa_nil)))))) (wss_one (ws_ret (we_tup (wa_cons (we_var 6) (wa_cons (we_var 7) (wa_cons (we_var 8) (wa_cons (we_var 9) (wa_cons (we_var 10) (wa_cons (we_tup (wa_cons we_str (wa_cons we_str (wa_cons (we_var 3) wa_nil)))) wa_nil))))))))) wss_nil)
    (wss_cons (ws_set (i := 5) sc.nd (we_call (k_store_word.mono (by decide)) hr (wa_cons (we_var 0) (wa_cons (we_var 8) (wa_cons (we_var 4) (wa_cons (we_call (k_size_of.mono (by decide)) hr (wa_cons (we_var 12) wa_nil)) (wa_cons (we_ix (we_var 6) (we_var 13)) wa_nil)))))))
    (wss_one (ws_ret (we_tup (wa_cons (we_var 6) (wa_cons (we_add (we_var 7) we_int) (wa_cons (we_var 5) (wa_cons (we_var 9) (wa_cons (we_var 10) (wa_cons (we_var 11) wa_nil))))))))))))))), fun ds wd Q hl hF => ?_⟩
  obtain ⟨I, data, s, i, old, rfl, IO, M, O, hk1, hk2, q⟩ := hF
  have hk := O.hk
  have hb := O.br (by omega)
  have rb := reg_at M hb.1 hb.2
  have ra := reg_at M O.a0 O.a1
  rw [show insD i = .tup [.str (opS i.k), .int i.a, .int i.b, .int i.c] from congrArg D.tup (insL_3 (by omega) (by omega))]
  unfold plainM at q
  rw [← m32] at q
  revert q
  generalize hA : Builtin.bitAnd (reg s i.b + i.c) 4294967295 = A
  intro q
  have hA' : Builtin.bitAnd (reg s i.b + i.c) (4294967296 - 1) = A := hA
  refine ⟨rfl, fun ρ w' => w' = wd ∧ ρ = [some (imgD I), some (msD s), some (.tup [.str (opS i.k), .int i.a, .int i.b, .int i.c]), some (.int old), none, none, some (intsD s.regs), some (.int s.pc), some (memD s.mem), some (.int (s.taken : Nat)), some (intsD s.out), some (enD s.en), some (.str (opS i.k)), some (.int i.a), some (.int i.b), some (.int i.c), none], ⟨rfl, rfl, rfl⟩, ?_⟩
  rintro ρ w' ⟨rfl, rfl⟩
  refine ⟨_, rb, rfl, fun h => ⟨rfl, i.k, rfl, hk, rfl, I, A, _, by rw [← hA]; rfl, IO.ns, fun h2 => ?_, fun h2 => ?_⟩, fun h => ⟨rfl, i.k, rfl, hk, rfl, I, A, _, by rw [← hA]; rfl, size_c _, IO.ns, fun h2 => ?_, fun h2 => ?_⟩⟩
  · rw [in_LOADS _ hk] at h
    rw [if_pos (of_decide_eq_true h)] at q
    have h3 : (!(loadOk I A (sizeM i.k)).isSome) = true := h2
    cases e : loadOk I A (sizeM i.k) with
    | some k => rw [e] at h3; cases h3
    | none =>
      rw [e] at q
      exact ⟨sz rfl, sz rfl, le_w q⟩
  · rw [in_LOADS _ hk] at h
    rw [if_pos (of_decide_eq_true h)] at q
    have h3 : (!(loadOk I A (sizeM i.k)).isSome) = false := h2
    cases e : loadOk I A (sizeM i.k) with
    | none => rw [e] at h3; cases h3
    | some k =>
      rw [e] at q
      have eh := loadOk_home e
      obtain ⟨row, g1, g2, g3, g4, g5⟩ := row_at M eh
      subst g2
      refine ⟨rfl, I, s.mem, A, i.k, k, _, by rw [← hA]; rfl, hk, IO.ns, eh, g1, g3, g4, ?_⟩
      exact ⟨rfl, s.regs, i.a, _, rfl, M.len, O.a0, O.a1, sz rfl, le_w q⟩
  · rw [in_LOADS _ hk] at h
    rw [if_neg (of_decide_eq_false h), if_pos (by have := of_decide_eq_false h; omega)] at q
    have h3 : (!(storeOk I A (sizeM i.k)).isSome) = true := h2
    cases e : storeOk I A (sizeM i.k) with
    | some k => rw [e] at h3; cases h3
    | none =>
      rw [e] at q
      exact ⟨sz rfl, sz rfl, le_w q⟩
  · rw [in_LOADS _ hk] at h
    rw [if_neg (of_decide_eq_false h), if_pos (by have := of_decide_eq_false h; omega)] at q
    have h3 : (!(storeOk I A (sizeM i.k)).isSome) = false := h2
    cases e : storeOk I A (sizeM i.k) with
    | none => rw [e] at h3; cases h3
    | some k =>
      rw [e] at q
      have eh := storeOk_home e
      obtain ⟨row, g1, g2, g3, g4, g5⟩ := row_at M eh
      subst g2
      refine ⟨rfl, i.k, rfl, hk, _, ra, rfl, I, s.mem, A, _, _, sizeM i.k, k, _, by rw [← hA]; rfl, rfl, ?_, IO.ns, by rw [M.ml]; exact IO.ns, eh, g1, ?_, ?_⟩
      · unfold sizeM; split <;> decide
      · rw [g3]
        obtain ⟨u, hu, _⟩ := home_some eh
        rw [segOf_at hu]
        exact IO.nv _ (List.mem_of_getElem? hu)
      · exact ⟨sz rfl, le_w q⟩

theorem ins0 {i : Ins} : atI (insL i) 0 = some (.str (opS i.k)) := by unfold insL; split <;> (try split) <;> rfl
theorem ins1 {i : Ins} : atI (insL i) 1 = some (.int i.a) := by unfold insL; split <;> (try split) <;> rfl
theorem ins2 {i : Ins} (h : ¬ 35 ≤ i.k) : atI (insL i) 2 = some (.int i.b) := by unfold insL; rw [if_neg h]; split <;> rfl
theorem ins3 {i : Ins} (h : ¬ 35 ≤ i.k) (h2 : ¬ (i.k = 21 ∨ i.k = 33)) : atI (insL i) 3 = some (.int i.c) := by unfold insL; rw [if_neg h, if_neg h2]; rfl
def DataAt (w : Wd) (dd : D) (data : List Int) : Prop := dd = intsD data ∨ ∃ a, dd = .ref a ∧ w a = some (.lst (data.map D.int))
theorem min_eq {a b : Nat} : (if ((b : Nat) : Int) < ((a : Nat) : Int) + 1 then ((b : Nat) : Int) else ((a : Nat) : Int) + 1) = ((min (a + 1) b : Nat) : Int) := by split <;> omega

theorem sc_plain_step : FnScope ["image", "data", "state", "instruction", "old", "op", "registers", "pc", "memory", "taken", "out", "end", "value"] ["image", "data", "state", "instruction", "old"] (defScope (top 31)) := ⟨rfl, rfl, rfl, by decide +kernel, rfl, by decide +kernel, by decide +kernel⟩
def fPlain : DSp := fun ds w P => ∃ I data s i old dd, ds = [imgD I, dd, msD s, insD i, .int old] ∧ ImgOk I ∧ MsOk I data s ∧ InsOk i ∧ DataAt w dd data ∧ s.out.length ≤ 1000 ∧ isJump i.k = false ∧ P (plD (plainM I data s i) s old) w
theorem ok_plain_step (T : Tx K mg) (k_access : Kp P w K mg base 4 "access" ["image", "state", "instruction", "old"] fAccess) (k_with_register : Kp P w K mg base 1 "with_register" ["registers", "number", "value"] fWith) (k_compute : Kp P w K mg base 3 "compute" ["op", "x", "y"] fCompute) : Kp P w K mg base 5 "plain_step" ["image", "data", "state", "instruction", "old"] fPlain := by
  have sc := sc_plain_step
  obtain ⟨f, fd, hm, FD⟩ := T.has 21 (i := 31) (x := "plain_step") rfl
  obtain ⟨q_ALU, t_ALU⟩ := T.tup 0 (x := "ALU") (ss := cALU) rfl
  obtain ⟨q_LOADS, t_LOADS⟩ := T.tup 2 (x := "LOADS") (ss := cLOADS) rfl
  obtain ⟨q_STORES, t_STORES⟩ := T.tup 3 (x := "STORES") (ss := cSTORES) rfl
  refine kp_of FD hm sc (fun _ _ _ _ _ _ us hl => match us, hl with | [_, _, _, _, _], _ => rfl) fun cdv A outer s H E hr => ⟨_, (wss_cut (ws_unp (is := [6, 7, 8, 9, 10, 11]) (by rfl) (we_var 2) (pgs_cons (pg_name (i := 6) sc.nd rfl (.inl rfl)) (pgs_cons (pg_name (i := 7) sc.nd rfl (.inl rfl)) (pgs_cons (pg_name (i := 8) sc.nd rfl (.inl rfl)) (pgs_cons (pg_name (i := 9) sc.nd rfl (.inl rfl)) (pgs_cons (pg_name (i := 10) sc.nd rfl (.inl rfl)) (pgs_cons (pg_name (i := 11) sc.nd rfl (.inl rfl)) pgs_nil)))))))
    (wss_cons (ws_set (i := 5) sc.nd (we_ix (we_var 3) we_int))
    (wss_cons (ws_if (PW.pt (ww_or (wt_in (we_var 5) (we_gTup t_LOADS.1 t_LOADS.2.1)) (ww_or1 (wt_in (we_var 5) (we_gTup t_STORES.1 t_STORES.2.1))))) (wss_one (ws_ret (we_call (k_access.mono (by decide)) hr (wa_cons (we_var 0) (wa_cons (we_var 2) (wa_cons (we_var 3) (wa_cons (we_var 4) wa_nil))))))) wss_nil)
    (wss_cons (ws_if (wt_eq hr (we_var 5) we_str) (wss_cons (ws_set (i := 12) sc.nd (we_if (wt_lt (we_var 9) (we_len (T.fre 0 rfl) (wa_cons (we_var 1) wa_nil))) (we_ix (we_var 1) (we_var 9)) (we_sub (we_gInt T.word) we_int)))
    (wss_one (ws_ret (we_tup (wa_cons (we_call (k_with_register.mono (by decide)) hr (wa_cons (we_var 6) (wa_cons (we_ix (we_var 3) we_int) (wa_cons (we_var 12) wa_nil)))) (wa_cons (we_add (we_var 7) we_int) (wa_cons (we_var 8) (wa_cons (we_min (by rfl) (T.fre 6 rfl) (wa_cons (we_add (we_var 9) we_int) (wa_cons (we_len (T.fre 0 rfl) (wa_cons (we_var 1) wa_nil)) wa_nil))) (wa_cons (we_var 10) (wa_cons (we_var 11) wa_nil)))))))))) wss_nil)
    (wss_cons (ws_if (wt_eq hr (we_var 5) we_str) (wss_one (ws_ret (we_tup (wa_cons (we_var 6) (wa_cons (we_add (we_var 7) we_int) (wa_cons (we_var 8) (wa_cons (we_var 9) (wa_cons (we_add (we_var 10) (we_tup (wa_cons (we_band (we_ix (we_var 6) (we_ix (we_var 3) we_int)) we_int) wa_nil))) (wa_cons (we_var 11) wa_nil))))))))) wss_nil)
    (wss_cut (ws_if (wt_eq hr (we_var 5) we_str) (wss_one (ws_set (i := 12) sc.nd (we_shl (we_ix (we_var 3) we_int) we_int))) (wss_one (ws_if (wt_in (we_var 5) (we_gTup t_ALU.1 t_ALU.2.1)) (wss_one (ws_set (i := 12) sc.nd (we_call (k_compute.mono (by decide)) hr (wa_cons (we_var 5) (wa_cons (we_ix (we_var 6) (we_ix (we_var 3) we_int)) (wa_cons (we_ix (we_var 6) (we_ix (we_var 3) we_int)) wa_nil)))))) (wss_one (ws_set (i := 12) sc.nd (we_call (k_compute.mono (by decide)) hr (wa_cons (we_var 5) (wa_cons (we_ix (we_var 6) (we_ix (we_var 3) we_int)) (wa_cons (we_band (we_ix (we_var 3) we_int) (we_sub (we_gInt T.word) we_int)) wa_nil)))))))))
    (wss_one (ws_ret (we_tup (wa_cons (we_call (k_with_register.mono (by decide)) hr (wa_cons (we_var 6) (wa_cons (we_ix (we_var 3) we_int) (wa_cons (we_var 12) wa_nil)))) (wa_cons (we_add (we_var 7) we_int) (wa_cons (we_var 8) (wa_cons (we_var 9) (wa_cons (we_var 10) (wa_cons (we_var 11) wa_nil))))))))))))))), fun ds wd Q hl hF => ?_⟩
  obtain ⟨I, data, s, i, old, dd, rfl, IO, M, O, hd, hol, hj, q⟩ := hF
  have hk := O.hk
  have hj' : ¬ (27 ≤ i.k ∧ i.k ≤ 34 ∨ i.k = 37) := of_decide_eq_false hj
  have ra := reg_at M O.a0 O.a1
  refine ⟨fun ρ w' => w' = wd ∧ ρ = [some (imgD I), some dd, some (msD s), some (insD i), some (.int old), none, some (intsD s.regs), some (.int s.pc), some (memD s.mem), some (.int (s.taken : Nat)), some (intsD s.out), some (enD s.en), none], ⟨rfl, rfl, rfl⟩, ?_⟩
  rintro ρ w' ⟨rfl, rfl⟩
  have acc : 22 ≤ i.k → i.k ≤ 26 → fAccess [imgD I, msD s, insD i, .int old] w' (endD Q).rt := fun h1 h2 => ⟨I, data, s, i, old, rfl, IO, M, O, h1, h2, le_w q⟩
  refine ⟨_, ins0, rfl, fun h => ⟨fun _ => ⟨rfl, ?_⟩, fun z => absurd (show true = false from z) (by decide)⟩, fun h => ⟨rfl, fun h2 => ⟨rfl, ?_⟩, fun h2 => ⟨fun h3 => ?_, fun h3 => ⟨fun h4 => ?_, fun h4 => ?_⟩⟩⟩⟩
  · rw [in_LOADS _ hk] at h
    have h' := of_decide_eq_true h
    exact acc (by omega) (by omega)
  · have h2' : inS (opS i.k) (cSTORES.map D.str) = true := h2
    rw [in_STORES _ hk] at h2'
    have h' := of_decide_eq_true h2'
    exact acc (by omega) (by omega)
  · have e := of_decide_eq_true (aeq hk 35 (by decide) h3)
    unfold plainM at q
    rw [if_neg (by omega), if_neg (by omega), if_pos e] at q
    have eg0 : ∀ v, v = data.getD s.taken (4294967296 - 1) → Q (.tup [intsD (setR s.regs i.a v), .int (s.pc + 4), memD s.mem, .int (if (((data.map D.int).length : Nat) : Int) < ((s.taken : Nat) : Int) + 1 then (((data.map D.int).length : Nat) : Int) else ((s.taken : Nat) : Int) + 1), intsD s.out, enD s.en]) w' := by
      rintro v rfl
      rw [List.length_map, min_eq]
      exact q
    have lt0 : ∀ b, decide (((s.taken : Nat) : Int) < (((data.map D.int).length : Nat) : Int)) = b → decide (s.taken < data.length) = b := by
      intro b g
      rw [← g, List.length_map]
      simp
    rcases hd with rfl | ⟨a, rfl, ha⟩
    · refine ⟨fun g => ?_, fun g => ?_⟩
      · have g' : s.taken < data.length := of_decide_eq_true (lt0 _ g)
        have eg := List.getElem?_eq_getElem g'
        exact ⟨_, atI_intsD eg, _, ins1, rfl, s.regs, i.a, _, rfl, M.len, O.a0, O.a1, sz rfl, le_w (eg0 _ (by rw [List.getD_eq_getElem?_getD, eg]; rfl))⟩
      · have g' : ¬ s.taken < data.length := of_decide_eq_false (lt0 _ g)
        have eg := List.getElem?_eq_none (show data.length ≤ s.taken by omega)
        exact ⟨_, ins1, rfl, s.regs, i.a, _, rfl, M.len, O.a0, O.a1, sz rfl, le_w (eg0 _ (by rw [List.getD_eq_getElem?_getD, eg]; rfl))⟩
    · refine ⟨_, ha, fun g => ?_, fun g => ?_⟩
      · have g' : s.taken < data.length := of_decide_eq_true (lt0 _ g)
        have eg := List.getElem?_eq_getElem g'
        exact ⟨_, _, ha, atI_intsD eg, _, ins1, rfl, s.regs, i.a, _, rfl, M.len, O.a0, O.a1, _, ha, sz rfl, le_w (eg0 _ (by rw [List.getD_eq_getElem?_getD, eg]; rfl))⟩
      · have g' : ¬ s.taken < data.length := of_decide_eq_false (lt0 _ g)
        have eg := List.getElem?_eq_none (show data.length ≤ s.taken by omega)
        exact ⟨_, ins1, rfl, s.regs, i.a, _, rfl, M.len, O.a0, O.a1, _, ha, sz rfl, le_w (eg0 _ (by rw [List.getD_eq_getElem?_getD, eg]; rfl))⟩
  · have e := of_decide_eq_true (aeq hk 36 (by decide) h4)
    unfold plainM at q
    rw [if_neg (by omega), if_neg (by omega), if_neg (by omega), if_pos e] at q
    refine ⟨_, ins1, _, ra, sz rfl, ?_, sz rfl, le_w (qd q ?_)⟩
    · refine sz2 ?_
      show (s.out.map D.int).length + 1 ≤ _
      rw [List.length_map]
      omega
    · show D.tup [intsD s.regs, .int (s.pc + 4), memD s.mem, .int (s.taken : Nat), .tup (s.out.map D.int ++ [.int (Builtin.bitAnd (reg s i.a) 255)]), enD s.en] = D.tup [intsD s.regs, .int (s.pc + 4), memD s.mem, .int (s.taken : Nat), .tup ((s.out ++ [reg s i.a % 256]).map D.int), enD s.en]
      rw [m8, List.map_append]
      rfl
  · have n1 := of_decide_eq_false (aeq hk 35 (by decide) h3)
    have n2 := of_decide_eq_false (aeq hk 36 (by decide) h4)
    rw [in_LOADS _ hk] at h
    have n3 := of_decide_eq_false h
    have h2' : inS (opS i.k) (cSTORES.map D.str) = false := h2
    rw [in_STORES _ hk] at h2'
    have n4 := of_decide_eq_false h2'
    have hj2 : i.k < 22 := by omega
    have hb : i.k ≠ 21 → 0 ≤ i.b ∧ i.b < 16 := fun z => O.br (by omega)
    refine ⟨fun ρ w1 => w1 = w' ∧ ∃ v, ρ = [some (imgD I), some dd, some (msD s), some (insD i), some (.int old), some (.str (opS i.k)), some (intsD s.regs), some (.int s.pc), some (memD s.mem), some (.int (s.taken : Nat)), some (intsD s.out), some (enD s.en), some (.int v)] ∧ plainM I data s i = .inr { s with regs := setR s.regs i.a v }, ⟨fun h5 => ?_, fun h5 => ⟨rfl, fun h6 => ?_, fun h6 => ?_⟩⟩, ?_⟩
    · have e := of_decide_eq_true (aeq hk 21 (by decide) h5)
      refine ⟨_, ins2 (by omega), cpow (by decide) (by decide) (by have := O.b0; omega) (by have := O.b1; omega), rfl, _, rfl, ?_⟩
      unfold plainM
      rw [if_neg (by omega), if_neg (by omega), if_neg (by omega), if_neg (by omega), if_pos e]
      rfl
    · have n5 := of_decide_eq_false (aeq hk 21 (by decide) h5)
      rw [in_ALU _ hk] at h6
      have e := of_decide_eq_true h6
      obtain ⟨c0, c1⟩ := O.cr e
      have hb := hb n5
      refine ⟨_, ins2 (by omega), _, reg_at M hb.1 hb.2, _, ins3 (by omega) (by omega), _, reg_at M c0 c1, rfl, i.k, _, _, rfl, by omega, reg_word M hb.1 hb.2, reg_word M c0 c1, rfl, _, rfl, ?_⟩
      unfold plainM
      rw [if_neg (by omega), if_neg (by omega), if_neg (by omega), if_neg (by omega), if_neg n5, if_pos e]
      unfold aluB
      rw [if_pos e]
    · have n5 := of_decide_eq_false (aeq hk 21 (by decide) h5)
      rw [in_ALU _ hk] at h6
      have e := of_decide_eq_false h6
      have hb := hb n5
      refine ⟨_, ins2 (by omega), _, reg_at M hb.1 hb.2, _, ins3 (by omega) (by omega), rfl, i.k, _, Builtin.bitAnd i.c 4294967295, rfl, by omega, reg_word M hb.1 hb.2, ?_, rfl, _, rfl, ?_⟩
      · rw [m32]
        exact ⟨by omega, by omega⟩
      · unfold plainM
        rw [if_neg (by omega), if_neg (by omega), if_neg (by omega), if_neg (by omega), if_neg n5, if_neg e, m32]
    · rintro ρ w' ⟨rfl, v, rfl, ep⟩
      rw [ep] at q
      exact ⟨_, ins1, rfl, s.regs, i.a, v, rfl, M.len, O.a0, O.a1, sz rfl, le_w q⟩

theorem sc_jump_step : FnScope ["state", "instruction", "op", "registers", "pc", "memory", "taken", "out", "end", "target"] ["state", "instruction"] (defScope (top 32)) := ⟨rfl, rfl, rfl, by decide +kernel, rfl, by decide +kernel, by decide +kernel⟩
def fJump : DSp := fun ds w P => ∃ I data s i, ds = [msD s, insD i] ∧ MsOk I data s ∧ InsOk i ∧ isJump i.k = true ∧ P (msD (jumpM s i)) w
theorem ok_jump_step (T : Tx K mg) (k_holds : Kp P w K mg base 2 "holds" ["op", "x", "y"] fHolds) (k_with_register : Kp P w K mg base 1 "with_register" ["registers", "number", "value"] fWith) : Kp P w K mg base 3 "jump_step" ["state", "instruction"] fJump := by
  have sc := sc_jump_step
  obtain ⟨f, fd, hm, FD⟩ := T.has 22 (i := 32) (x := "jump_step") rfl
  obtain ⟨q_BRANCHES, t_BRANCHES⟩ := T.tup 4 (x := "BRANCHES") (ss := cBRANCHES) rfl
  refine kp_of FD hm sc (fun _ _ _ _ _ _ us hl => match us, hl with | [_, _], _ => rfl) fun cdv A outer s H E hr => ⟨_, (wss_cut (ws_unp (is := [3, 4, 5, 6, 7, 8]) (by rfl) (we_var 0) (pgs_cons (pg_name (i := 3) sc.nd rfl (.inl rfl)) (pgs_cons (pg_name (i := 4) sc.nd rfl (.inl rfl)) (pgs_cons (pg_name (i := 5) sc.nd rfl (.inl rfl)) (pgs_cons (pg_name (i := 6) sc.nd rfl (.inl rfl)) (pgs_cons (pg_name (i := 7) sc.nd rfl (.inl rfl)) (pgs_cons (pg_name (i := 8) sc.nd rfl (.inl rfl)) pgs_nil)))))))
    (wss_cons (ws_set (i := 2) sc.nd (we_ix (we_var 1) we_int))
    (wss_cons (ws_if (wt_eq hr (we_var 2) we_str) (wss_one (ws_ret (we_tup (wa_cons (we_var 3) (wa_cons (we_var 4) (wa_cons (we_var 5) (wa_cons (we_var 6) (wa_cons (we_var 7) (wa_cons (we_tup (wa_cons we_str (wa_cons (we_band (we_ix (we_var 3) (we_ix (we_var 1) we_int)) we_int) wa_nil))) wa_nil))))))))) wss_nil)
    (wss_cut (ws_if (wt_in (we_var 2) (we_gTup t_BRANCHES.1 t_BRANCHES.2.1)) (wss_cons (ws_set (i := 9) sc.nd (we_add (we_var 4) we_int))
    (wss_one (ws_if (wt_val (we_call (k_holds.mono (by decide)) hr (wa_cons (we_var 2) (wa_cons (we_ix (we_var 3) (we_ix (we_var 1) we_int)) (wa_cons (we_ix (we_var 3) (we_ix (we_var 1) we_int)) wa_nil))))) (wss_one (ws_set (i := 9) sc.nd (we_add (we_var 4) (we_mul we_int (we_ix (we_var 1) we_int))))) wss_nil))) (wss_one (ws_if (wt_eq hr (we_var 2) we_str) (wss_cons (ws_set (i := 9) sc.nd (we_add (we_var 4) (we_mul we_int (we_ix (we_var 1) we_int))))
    (wss_one (ws_set (i := 3) sc.nd (we_call (k_with_register.mono (by decide)) hr (wa_cons (we_var 3) (wa_cons (we_ix (we_var 1) we_int) (wa_cons (we_band (we_add (we_var 4) we_int) (we_sub (we_gInt T.word) we_int)) wa_nil))))))) (wss_cons (ws_set (i := 9) sc.nd (we_add (we_ix (we_var 3) (we_ix (we_var 1) we_int)) (we_ix (we_var 1) we_int)))
    (wss_one (ws_set (i := 3) sc.nd (we_call (k_with_register.mono (by decide)) hr (wa_cons (we_var 3) (wa_cons (we_ix (we_var 1) we_int) (wa_cons (we_band (we_add (we_var 4) we_int) (we_sub (we_gInt T.word) we_int)) wa_nil))))))))))
    (wss_one (ws_ret (we_tup (wa_cons (we_var 3) (wa_cons (we_band (we_var 9) (we_sub (we_gInt T.word) we_int)) (wa_cons (we_var 5) (wa_cons (we_var 6) (wa_cons (we_var 7) (wa_cons (we_var 8) wa_nil))))))))))))), fun ds wd Q hl hF => ?_⟩
  obtain ⟨I, data, s, i, rfl, M, O, hj, q⟩ := hF
  have hk := O.hk
  have hj' : 27 ≤ i.k ∧ i.k ≤ 34 ∨ i.k = 37 := of_decide_eq_true hj
  have ra := reg_at M O.a0 O.a1
  refine ⟨fun ρ w' => w' = wd ∧ ρ = [some (msD s), some (insD i), none, some (intsD s.regs), some (.int s.pc), some (memD s.mem), some (.int (s.taken : Nat)), some (intsD s.out), some (enD s.en), none], ⟨rfl, rfl, rfl⟩, ?_⟩
  rintro ρ w' ⟨rfl, rfl⟩
  unfold jumpM at q
  refine ⟨_, ins0, fun h => ?_, fun h => ?_⟩
  · have e := of_decide_eq_true (aeq hk 37 (by decide) h)
    rw [if_pos e] at q
    refine ⟨_, ins1, _, ra, sz rfl, sz rfl, le_w (qd q ?_)⟩
    show D.tup [intsD s.regs, .int s.pc, memD s.mem, .int (s.taken : Nat), intsD s.out, .tup [.str "exit", .int (Builtin.bitAnd (reg s i.a) 255)]] = _
    rw [m8]
    rfl
  · have n1 := of_decide_eq_false (aeq hk 37 (by decide) h)
    rw [if_neg n1] at q
    have hb : i.k ≠ 33 → 0 ≤ i.b ∧ i.b < 16 := fun z => O.br (by omega)
    refine ⟨fun ρ w1 => w1 = w' ∧ ∃ (regs : List Int) (t : Int), ρ = [some (msD s), some (insD i), some (.str (opS i.k)), some (intsD regs), some (.int s.pc), some (memD s.mem), some (.int (s.taken : Nat)), some (intsD s.out), some (enD s.en), some (.int t)] ∧ jumpM s i = { s with regs := regs, pc := t % 4294967296 }, ⟨rfl, fun h2 => ?_, fun h2 => ⟨fun h3 => ?_, fun h3 => ?_⟩⟩, ?_⟩
    · rw [in_BRANCHES _ hk] at h2
      have e := of_decide_eq_true h2
      have hb := hb (by omega)
      refine ⟨_, ins1, _, ra, _, ins2 (by omega), _, reg_at M hb.1 hb.2, rfl, i.k, _, _, rfl, by omega, by omega, reg_word M O.a0 O.a1, reg_word M hb.1 hb.2, fun h3 => ⟨_, ins3 (by omega) (by omega), (.inl ⟨by decide, by decide⟩), rfl, _, _, rfl, ?_⟩, fun h3 => ⟨rfl, _, _, rfl, ?_⟩⟩
      · unfold jumpM
        rw [if_neg n1, if_neg (by omega), if_neg (by omega), if_pos h3]
      · unfold jumpM
        rw [if_neg n1, if_neg (by omega), if_neg (by omega), if_neg (by rw [show holdsM i.k (reg s i.a) (reg s i.b) = false from h3]; decide)]
    · rw [in_BRANCHES _ hk] at h2
      have e := of_decide_eq_true (aeq hk 33 (by decide) h3)
      refine ⟨_, ins2 (by omega), (.inl ⟨by decide, by decide⟩), _, ins1, rfl, s.regs, i.a, _, rfl, M.len, O.a0, O.a1, rfl, setR s.regs i.a ((s.pc + 4) % 4294967296), s.pc + 4 * i.b, ?_, ?_⟩
      · rw [← m32 (s.pc + 4)]
        rfl
      · unfold jumpM
        rw [if_neg n1, if_pos e]
    · rw [in_BRANCHES _ hk] at h2
      have n2 := of_decide_eq_false h2
      have n3 := of_decide_eq_false (aeq hk 33 (by decide) h3)
      have e : i.k = 34 := by omega
      have hb := hb (by omega)
      refine ⟨_, ins2 (by omega), _, reg_at M hb.1 hb.2, _, ins3 (by omega) (by omega), _, ins1, rfl, s.regs, i.a, _, rfl, M.len, O.a0, O.a1, rfl, setR s.regs i.a ((s.pc + 4) % 4294967296), reg s i.b + i.c, ?_, ?_⟩
      · rw [← m32 (s.pc + 4)]
        rfl
      · unfold jumpM
        rw [if_neg n1, if_neg n3, if_pos e]
    · rintro ρ w1 ⟨rfl, regs, t, rfl, ep⟩
      have q' : Q (msD (jumpM s i)) w1 := by
        unfold jumpM
        rw [if_neg n1]
        exact q
      rw [ep, ← m32] at q'
      exact ⟨sz rfl, le_w q'⟩

def enP : En → PyData
  | .none => .tuple [.str "none"]
  | .exit c => .tuple [.str "exit", .int c]
  | .trap t a => .tuple [.str "trap", .str t.s, .int a]
theorem en_dd {wd : Wd} : ∀ e : En, Dd wd (enD e) (enP e)
  | .none => .tup (.cons (.str _) .nil)
  | .exit _ => .tup (.cons (.str _) (.cons (.int _) .nil))
  | .trap _ _ => .tup (.cons (.str _) (.cons (.str _) (.cons (.int _) .nil)))
theorem sk (x : Str) (h : PyData.strOk x = true) : PyData.canLay0 (.str x) = true := by simp only [PyData.canLay0]; exact h
theorem en_lay : ∀ e : En, PyData.canLay0 (enP e) = true
  | .none => by simp only [enP, PyData.canLay0, PyData.canLayAll0, Bool.and_true]; decide +kernel
  | .exit c => by simp only [enP, PyData.canLay0, PyData.canLayAll0, Bool.and_true]; decide +kernel
  | .trap t a => by simp only [enP, PyData.canLay0, PyData.canLayAll0, Bool.and_true]; cases t <;> decide +kernel
theorem en_depth : ∀ e : En, PyData.depth (enP e) = 1
  | .none => by simp only [enP, PyData.depth, PyData.depthAll]; decide
  | .exit c => by simp only [enP, PyData.depth, PyData.depthAll]; decide
  | .trap t a => by simp only [enP, PyData.depth, PyData.depthAll]; decide
theorem sh_of {d : PyData} (h : d.canLay0 = true) (h2 : d.depth ≤ 64) : SeqAt.shaped d = true := by
  unfold SeqAt.shaped
  rw [h, decide_eq_true h2]
  rfl
theorem en_sh (e : En) : SeqAt.shaped (enP e) = true := sh_of (en_lay e) (by rw [en_depth]; decide)
def En.live : En → Bool
  | .none => true
  | _ => false
theorem en_live : ∀ e : En, PyData.eqv (enP e) (.tuple [.str "none"]) = e.live
  | .none => by decide
  | .exit c => by
    show (("exit" : Str) == ("none" : Str) && false) = false
    rw [Bool.and_false]
  | .trap t a => by
    show (("trap" : Str) == ("none" : Str) && false) = false
    rw [Bool.and_false]
theorem eq_en {wd : Wd} {Q : D → Wd → Prop} {e : En} (q : Q (.bl e.live) wd) : rEqD' (enD e) (.tup [.str "none"]) wd Q := by
  rw [← en_live] at q
  cases e with
  | none => exact ⟨_, _, en_dd .none, en_dd .none, en_sh .none, en_sh .none, q⟩
  | exit c => exact ⟨_, _, en_dd (.exit c), en_dd .none, en_sh (.exit c), en_sh .none, q⟩
  | trap t a => exact ⟨_, _, en_dd (.trap t a), en_dd .none, en_sh (.trap t a), en_sh .none, q⟩
theorem ne_en {wd : Wd} {Q : D → Wd → Prop} {e : En} (q : Q (.bl (!e.live)) wd) : rNeD' (enD e) (.tup [.str "none"]) wd Q := by
  rw [← en_live] at q
  cases e with
  | none => exact ⟨_, _, en_dd .none, en_dd .none, en_sh .none, en_sh .none, q⟩
  | exit c => exact ⟨_, _, en_dd (.exit c), en_dd .none, en_sh (.exit c), en_sh .none, q⟩
  | trap t a => exact ⟨_, _, en_dd (.trap t a), en_dd .none, en_sh (.trap t a), en_sh .none, q⟩
theorem exec_plain {I : Img} {data : List Int} {s : MS} {i : Ins} (hj : isJump i.k = false) (hp : Word s.pc) : ∃ s2 : MS, plD (plainM I data s i) s s.pc = msD s2 ∧ { s2 with pc := s2.pc % 4294967296 } = execM I data s i := by
  unfold execM
  rw [if_neg (by rw [hj]; decide)]
  cases plainM I data s i with
  | inl t => exact ⟨{ s with en := .trap t s.pc }, rfl, by show MS.mk s.regs (s.pc % 4294967296) s.mem s.taken s.out (.trap t s.pc) = _; rw [Int.emod_eq_of_lt hp.1 hp.2]⟩
  | inr s' => exact ⟨{ s' with pc := s.pc + 4 }, rfl, rfl⟩
theorem sc_step : FnScope ["image", "data", "state", "instruction", "changed", "registers", "pc", "memory", "taken", "out", "end"] ["image", "data", "state"] (defScope (top 33)) := ⟨rfl, rfl, rfl, by decide +kernel, rfl, by decide +kernel, by decide +kernel⟩
def fStep : DSp := fun ds w P => ∃ I data s dd, ds = [imgD I, dd, msD s] ∧ ImgOk I ∧ MsOk I data s ∧ DataAt w dd data ∧ s.out.length ≤ 1000 ∧ P (msD (stepM I data s)) w
theorem ok_step (T : Tx K mg) (k_can_fetch : Kp P w K mg base 2 "can_fetch" ["image", "address"] fCanFetch) (k_word_at : Kp P w K mg base 3 "word_at" ["image", "address"] fWordAt) (k_decode : Kp P w K mg base 3 "decode" ["word"] fDecode)
    (k_jump_step : Kp P w K mg base 3 "jump_step" ["state", "instruction"] fJump) (k_plain_step : Kp P w K mg base 5 "plain_step" ["image", "data", "state", "instruction", "old"] fPlain) : Kp P w K mg base 6 "step" ["image", "data", "state"] fStep := by
  have sc := sc_step
  obtain ⟨f, fd, hm, FD⟩ := T.has 23 (i := 33) (x := "step") rfl
  obtain ⟨q_BRANCHES, t_BRANCHES⟩ := T.tup 4 (x := "BRANCHES") (ss := cBRANCHES) rfl
  refine kp_of FD hm sc (fun _ _ _ _ _ _ us hl => match us, hl with | [_, _, _], _ => rfl) fun cdv A outer s H E hr => ⟨_, (wss_cut (ws_unp (is := [5, 6, 7, 8, 9, 10]) (by rfl) (we_var 2) (pgs_cons (pg_name (i := 5) sc.nd rfl (.inl rfl)) (pgs_cons (pg_name (i := 6) sc.nd rfl (.inl rfl)) (pgs_cons (pg_name (i := 7) sc.nd rfl (.inl rfl)) (pgs_cons (pg_name (i := 8) sc.nd rfl (.inl rfl)) (pgs_cons (pg_name (i := 9) sc.nd rfl (.inl rfl)) (pgs_cons (pg_name (i := 10) sc.nd rfl (.inl rfl)) pgs_nil)))))))
    (wss_cons (ws_if (wt_ne hr (we_var 10) (we_tup (wa_cons we_str wa_nil))) (wss_one (ws_ret (we_var 2))) wss_nil)
    (wss_cons (ws_if (wt_not (wt_val (we_call (k_can_fetch.mono (by decide)) hr (wa_cons (we_var 0) (wa_cons (we_var 6) wa_nil))))) (wss_one (ws_ret (we_tup (wa_cons (we_var 5) (wa_cons (we_var 6) (wa_cons (we_var 7) (wa_cons (we_var 8) (wa_cons (we_var 9) (wa_cons (we_tup (wa_cons we_str (wa_cons we_str (wa_cons (we_var 6) wa_nil)))) wa_nil))))))))) wss_nil)
    (wss_cons (ws_set (i := 3) sc.nd (we_call (k_decode.mono (by decide)) hr (wa_cons (we_call (k_word_at.mono (by decide)) hr (wa_cons (we_var 0) (wa_cons (we_var 6) wa_nil))) wa_nil)))
    (wss_cons (ws_if (wt_is (we_var 3) we_non) (wss_one (ws_ret (we_tup (wa_cons (we_var 5) (wa_cons (we_var 6) (wa_cons (we_var 7) (wa_cons (we_var 8) (wa_cons (we_var 9) (wa_cons (we_tup (wa_cons we_str (wa_cons we_str (wa_cons (we_var 6) wa_nil)))) wa_nil))))))))) wss_nil)
    (wss_cons (ws_if (PW.pt (ww_or (wt_in (we_ix (we_var 3) we_int) (we_gTup t_BRANCHES.1 t_BRANCHES.2.1)) (ww_or1 (wt_in (we_ix (we_var 3) we_int) (we_tup (wa_cons we_str (wa_cons we_str (wa_cons we_str wa_nil)))))))) (wss_one (ws_ret (we_call (k_jump_step.mono (by decide)) hr (wa_cons (we_var 2) (wa_cons (we_var 3) wa_nil))))) wss_nil)
    (wss_cons (ws_set (i := 4) sc.nd (we_call (k_plain_step.mono (by decide)) hr (wa_cons (we_var 0) (wa_cons (we_var 1) (wa_cons (we_var 2) (wa_cons (we_var 3) (wa_cons (we_var 6) wa_nil)))))))
    (wss_one (ws_ret (we_tup (wa_cons (we_ix (we_var 4) we_int) (wa_cons (we_band (we_ix (we_var 4) we_int) (we_sub (we_gInt T.word) we_int)) (wa_cons (we_ix (we_var 4) we_int) (wa_cons (we_ix (we_var 4) we_int) (wa_cons (we_ix (we_var 4) we_int) (wa_cons (we_ix (we_var 4) we_int) wa_nil)))))))))))))))), fun ds wd Q hl hF => ?_⟩
  obtain ⟨I, data, s, dd, rfl, IO, M, hd, hol, q⟩ := hF
  refine ⟨fun ρ w' => w' = wd ∧ ρ = [some (imgD I), some dd, some (msD s), none, none, some (intsD s.regs), some (.int s.pc), some (memD s.mem), some (.int (s.taken : Nat)), some (intsD s.out), some (enD s.en)], ⟨rfl, rfl, rfl⟩, ?_⟩
  rintro ρ w' ⟨rfl, rfl⟩
  unfold stepM at q
  refine ⟨sz rfl, ne_en ⟨fun h => ?_, fun h => ?_⟩⟩
  · have h' : (!s.en.live) = true := h
    refine le_w (qd q ?_)
    cases e : s.en with
    | none => rw [e] at h'; cases h'
    | exit c => rfl
    | trap t a => rfl
  · have h' : (!s.en.live) = false := h
    have en0 : s.en = .none := by
      cases e : s.en with
      | none => rfl
      | exit c => rw [e] at h'; cases h'
      | trap t a => rw [e] at h'; cases h'
    have q' : Q (msD (match fetchM I s.pc with
      | none => { s with en := .trap .fetch s.pc }
      | some w => match decM w with
        | none => { s with en := .trap .illegal s.pc }
        | some i => execM I data s i)) w' := by
      rw [en0] at q
      exact q
    clear q
    refine ⟨rfl, I, s.pc, rfl, IO.ns, fun h2 => ?_, fun h2 => ?_⟩
    · have h3 : (!(fetchM I s.pc).isSome) = true := h2
      cases ef : fetchM I s.pc with
      | some v => rw [ef] at h3; cases h3
      | none =>
        rw [ef] at q'
        exact ⟨sz rfl, sz rfl, le_w q'⟩
    · have h3 : (!(fetchM I s.pc).isSome) = false := h2
      cases ef : fetchM I s.pc with
      | none => rw [ef] at h3; cases h3
      | some v =>
        rw [ef] at q'
        obtain ⟨k, e1, e2⟩ : ∃ k, homeM I.segs s.pc 4 = some k ∧ v = rdM (segOf I k).vals (s.pc - (segOf I k).base).toNat 4 := by
          unfold fetchM at ef
          cases e1 : loadOk I s.pc 4 with
          | none => rw [e1] at ef; cases ef
          | some k =>
            rw [e1] at ef
            have ef' : (if (segOf I k).ex = true then some (rdM (segOf I k).vals (s.pc - (segOf I k).base).toNat 4) else none) = some v := ef
            split at ef'
            · cases ef'
              exact ⟨k, loadOk_home e1, rfl⟩
            · cases ef'
        have v0 : 0 ≤ v := by
          obtain ⟨u, hu, hin⟩ := home_some e1
          rw [segOf_at hu] at e2
          obtain ⟨g0, g1, g2⟩ := inSeg_place hin (n := 4) rfl
          rw [e2]
          exact (rdM_bound 4 g1 (IO.segs _ (List.mem_of_getElem? hu)).bs).1
        refine ⟨rfl, I, s.pc, k, rfl, IO.ns, IO.segs, e1, rfl, v, by rw [e2], v0, ?_⟩
        have q2 : Q (msD (match decM v with
          | none => { s with en := .trap .illegal s.pc }
          | some i => execM I data s i)) w' := q'
        clear q'
        cases ed : decM v with
        | none =>
          rw [ed] at q2
          exact ⟨fun _ => ⟨sz rfl, sz rfl, le_w q2⟩, fun z => absurd (show true = false from z) (by decide)⟩
        | some i =>
          rw [ed] at q2
          have O := decM_ok v0 ed
          have hk := O.hk
          have q3 : Q (msD (execM I data s i)) w' := q2
          clear q2
          have jp : isJump i.k = true → fJump [msD s, insD i] w' (endD Q).rt := fun hj => ⟨I, data, s, i, rfl, M, O, hj, by unfold execM at q3; rw [if_pos hj] at q3; exact le_w q3⟩
          refine ⟨fun z => absurd (show false = true from z) (by decide), fun _ => ⟨_, ins0, rfl, fun h4 => ⟨fun _ => ⟨rfl, jp ?_⟩, fun z => absurd (show true = false from z) (by decide)⟩, fun h4 => ⟨_, ins0, sz rfl, rfl, fun h5 => ⟨rfl, jp ?_⟩, fun h5 => ?_⟩⟩⟩
          · rw [in_BRANCHES _ hk] at h4
            have := of_decide_eq_true h4
            exact decide_eq_true (by omega)
          · have h5' : inS (opS i.k) [.str "jal", .str "jalr", .str "exit"] = true := h5
            rw [in_jje _ hk] at h5'
            have := of_decide_eq_true h5'
            exact decide_eq_true (by omega)
          · have h5' : inS (opS i.k) [.str "jal", .str "jalr", .str "exit"] = false := h5
            rw [in_jje _ hk] at h5'
            have n1 := of_decide_eq_false h5'
            rw [in_BRANCHES _ hk] at h4
            have n2 := of_decide_eq_false h4
            have hj : isJump i.k = false := decide_eq_false (by omega)
            refine ⟨rfl, I, data, s, i, s.pc, dd, rfl, IO, M, O, hd, hol, hj, ?_⟩
            obtain ⟨s2, e5, e6⟩ := exec_plain (I := I) (data := data) (i := i) hj M.pc
            rw [e5]
            rw [← e6, ← m32] at q3
            exact ⟨_, rfl, _, rfl, _, rfl, _, rfl, _, rfl, _, rfl, sz rfl, le_w q3⟩
end
end Rs
set_option maxHeartbeats 4000000
/-! What a step keeps. -/
namespace Rs
open PySem PySem.Spec PyProof.Rows L2
theorem sgn32_b {x : Int} (h : Word x) : -2147483648 ≤ sgn32 x ∧ sgn32 x < 2147483648 := by
  obtain ⟨a, b⟩ := h
  unfold sgn32
  split <;> omega
theorem pow_sh (y : Int) : (0 : Int) < 2 ^ sh y := Int.pow_pos (by decide)
theorem div_word {x p : Int} (hx : Word x) (hp : 0 < p) : Word (x / p) := ⟨Int.ediv_nonneg hx.1 (by omega), Int.lt_of_le_of_lt (Int.ediv_le_self _ hx.1) hx.2⟩
theorem mod_word (x : Int) : Word (x % 4294967296) := ⟨by omega, by omega⟩
theorem bits_word {x y : Int} (hx : Word x) (hy : Word y) : Word (Builtin.bitAnd x y) ∧ Word (Builtin.bitOr x y) ∧ Word (Builtin.bitXor x y) := by
  obtain ⟨m, rfl⟩ := Int.eq_ofNat_of_zero_le hx.1
  obtain ⟨n, rfl⟩ := Int.eq_ofNat_of_zero_le hy.1
  have hm : m < 2 ^ 32 := by have := hx.2; omega
  have hn : n < 2 ^ 32 := by have := hy.2; omega
  have a : Builtin.bitAnd (m : Int) (n : Int) = ((m &&& n : Nat) : Int) := rfl
  have b : Builtin.bitOr (m : Int) (n : Int) = ((m ||| n : Nat) : Int) := by rw [bitOr_nn (Int.natCast_nonneg _) (Int.natCast_nonneg _), Int.toNat_natCast, Int.toNat_natCast]
  have c : Builtin.bitXor (m : Int) (n : Int) = Builtin.bitOr m n - Builtin.bitAnd m n := rfl
  rw [c, a, b]
  have e1 := Nat.and_lt_two_pow m hn
  have e2 := Nat.or_lt_two_pow hm hn
  have e3 : m &&& n ≤ m ||| n := Nat.le_trans Nat.and_le_left Nat.left_le_or
  exact ⟨⟨by omega, by omega⟩, ⟨by omega, by omega⟩, ⟨by omega, by omega⟩⟩
theorem ite_word {c : Prop} [Decidable c] {x y : Int} (h1 : c → Word x) (h2 : ¬ c → Word y) : Word (if c then x else y) := by
  by_cases h : c
  · rw [if_pos h]; exact h1 h
  · rw [if_neg h]; exact h2 h
theorem alu_word {k : Nat} {x y : Int} (hx : Word x) (hy : Word y) : Word (alu k x y) := by
  obtain ⟨ba, bo, bx⟩ := bits_word hx hy
  have e01 : ∀ c : Prop, [Decidable c] → Word (if c then 1 else 0) := by
    intro c _
    split <;> exact ⟨by decide, by decide⟩
  unfold alu
  refine ite_word (fun _ => mod_word _) fun _ => ite_word (fun _ => mod_word _) fun _ => ite_word (fun _ => mod_word _) fun _ => ite_word (fun _ => ba) fun _ => ite_word (fun _ => bo) fun _ => ite_word (fun _ => bx) fun _ =>
    ite_word (fun _ => mod_word _) fun _ => ite_word (fun _ => div_word hx (pow_sh y)) fun _ => ite_word (fun _ => mod_word _) fun _ => ite_word (fun _ => e01 _) fun _ => ite_word (fun _ => e01 _) fun _ =>
    ite_word (fun _ => ite_word (fun _ => ⟨by decide, by decide⟩) fun hy0 => ?_) fun _ => ite_word (fun _ => hx) fun hy0 => ?_
  · have := hy.1
    exact div_word hx (by omega)
  · have := hy.1
    have e : x - x / y * y = x % y := by rw [Int.emod_def, Int.mul_comm]
    rw [e]
    have h1 := Int.emod_nonneg x hy0
    have h2 := Int.emod_lt_of_pos x (show 0 < y by omega)
    have := hy.2
    exact ⟨h1, by omega⟩
theorem setR_ok {regs : List Int} {n v : Int} (h : regs.length = 16) (hw : ∀ x ∈ regs, Word x) (hv : Word v) : (setR regs n v).length = 16 ∧ ∀ x ∈ setR regs n v, Word x := by
  unfold setR
  split
  · exact ⟨h, hw⟩
  · refine ⟨by rw [List.length_set]; exact h, fun x hx => ?_⟩
    rcases List.mem_or_eq_of_mem_set hx with h1 | h1
    · exact hw x h1
    · rw [h1]; exact hv
theorem start_ok {I : Img} {data : List Int} (IO : ImgOk I) : MsOk I data (startM I) where
  len := rfl
  rw := fun x hx => by
    rw [List.eq_of_mem_replicate hx]
    exact ⟨by decide, by decide⟩
  pc := IO.entry
  ml := by
    show (I.segs.map _).length = _
    rw [List.length_map]
  mr := fun k row h => by
    have h' : (I.segs.map (·.vals))[k]? = some row := h
    rw [List.getElem?_map] at h'
    cases e : I.segs[k]? with
    | none => rw [e] at h'; cases h'
    | some s =>
      rw [e] at h'
      have h2 : s.vals = row := Option.some.inj h'
      rw [segOf_at e, h2]
  mb := fun row h x hx => by
    obtain ⟨s, hs, rfl⟩ := List.mem_map.mp h
    exact (IO.segs s hs).bs x hx
  tk := Nat.zero_le _
theorem wrM_len {row : List Int} {p n : Nat} {v : Int} (h : p + n ≤ row.length) : (wrM row p n v).length = row.length := by
  unfold wrM
  rw [List.length_append, List.length_append, bytesM_len, List.length_take, List.length_drop]
  omega
theorem wrM_bytes {row : List Int} {p n : Nat} {v : Int} (h : ∀ x ∈ row, Byte x) : ∀ x ∈ wrM row p n v, Byte x := by
  intro x hx
  unfold wrM at hx
  rcases List.mem_append.mp hx with h1 | h1
  · rcases List.mem_append.mp h1 with h2 | h2
    · exact h x (List.mem_of_mem_take h2)
    · unfold bytesM at h2
      obtain ⟨j, _, rfl⟩ := List.mem_map.mp h2
      exact ⟨by omega, by omega⟩
  · exact h x (List.mem_of_mem_drop h1)
theorem loadV_word {k : Nat} {row : List Int} {p : Nat} (h : p + sizeM k ≤ row.length) (hb : ∀ x ∈ row, Byte x) : Word (loadV k (rdM row p (sizeM k))) := by
  obtain ⟨a, b⟩ := rdM_bound (sizeM k) h hb
  unfold loadV
  revert a b
  generalize rdM row p (sizeM k) = v
  intro a b
  unfold sizeM at b
  split at b
  · have b' : v < 4294967296 := b
    rw [if_neg (by omega)]
    exact ⟨a, b'⟩
  · have b' : v < 256 := b
    split
    · exact ⟨by omega, by omega⟩
    · exact ⟨a, by omega⟩
theorem out_plain {I : Img} {data : List Int} {s s' : MS} {i : Ins} (h : plainM I data s i = .inr s') : s'.out.length ≤ s.out.length + 1 := by
  unfold plainM at h
  repeat' split at h
  all_goals (try cases h)
  all_goals (try exact Nat.le_succ _)
  show (s.out ++ [_]).length ≤ _
  rw [List.length_append, List.length_singleton]
  exact Nat.le_refl _
theorem out_step {I : Img} {data : List Int} {s : MS} : (stepM I data s).out.length ≤ s.out.length + 1 := by
  unfold stepM
  split
  · split
    · exact Nat.le_succ _
    · split
      · exact Nat.le_succ _
      · unfold execM
        split
        · unfold jumpM
          repeat' split
          all_goals exact Nat.le_succ _
        · split
          · exact Nat.le_succ _
          · rename_i s' h
            exact (out_plain h : s'.out.length ≤ s.out.length + 1)
  · exact Nat.le_succ _
theorem plain_ok {I : Img} {data : List Int} {s s' : MS} {i : Ins} (IO : ImgOk I) (hd : ∀ x ∈ data, Byte x) (M : MsOk I data s) (O : InsOk i) (h : plainM I data s i = .inr s') : MsOk I data s' := by
  have rg : ∀ v, Word v → MsOk I data { s with regs := setR s.regs i.a v } := fun v hv => ⟨(setR_ok M.len M.rw hv).1, (setR_ok M.len M.rw hv).2, M.pc, M.ml, M.mr, M.mb, M.tk⟩
  have rw0 : ∀ a, Word (reg s a) := by
    intro a
    unfold reg
    rw [List.getD_eq_getElem?_getD]
    cases e : s.regs[a.toNat]? with
    | none => exact ⟨by decide, by decide⟩
    | some x => exact M.rw _ (List.mem_of_getElem? e)
  unfold plainM at h
  split at h
  · split at h
    · rename_i k e
      cases h
      have eh := loadOk_home e
      obtain ⟨row, g1, g2, g3, g4, g5⟩ := row_at M eh
      obtain ⟨u, hu, hin⟩ := home_some eh
      obtain ⟨p0, p1, p2⟩ := inSeg_place hin rfl
      refine rg _ ?_
      rw [g2, segOf_at hu]
      rw [segOf_at hu] at g3
      exact loadV_word (by rw [g3]; exact p1) g4
    · cases h
  · split at h
    · split at h
      · rename_i k e
        cases h
        have eh := storeOk_home e
        obtain ⟨row, g1, g2, g3, g4, g5⟩ := row_at M eh
        obtain ⟨u, hu, hin⟩ := home_some eh
        obtain ⟨p0, p1, p2⟩ := inSeg_place hin rfl
        rw [g2]
        refine ⟨M.len, M.rw, M.pc, by rw [List.length_set]; exact M.ml, fun j r hj => ?_, fun r hr => ?_, M.tk⟩
        · have hj' : (s.mem.set k _)[j]? = some r := hj
          rw [List.getElem?_set] at hj'
          split at hj'
          · rename_i ekj
            subst ekj
            split at hj'
            · cases hj'
              rw [wrM_len (by rw [g3, segOf_at hu]; exact p1)]
              exact g3
            · cases hj'
          · exact M.mr j r hj'
        · rcases List.mem_or_eq_of_mem_set hr with h1 | h1
          · exact M.mb r h1
          · rw [h1]; exact wrM_bytes g4
      · cases h
    · split at h
      · cases h
        have z := rg (data.getD s.taken (4294967296 - 1)) (by
          rw [List.getD_eq_getElem?_getD]
          cases e : data[s.taken]? with
          | none => exact ⟨by decide, by decide⟩
          | some x =>
            have := hd _ (List.mem_of_getElem? e)
            exact ⟨this.1, Int.lt_trans this.2 (by decide)⟩)
        exact ⟨z.len, z.rw, z.pc, z.ml, z.mr, z.mb, Nat.min_le_right _ _⟩
      · split at h
        · cases h
          exact ⟨M.len, M.rw, M.pc, M.ml, M.mr, M.mb, M.tk⟩
        · split at h
          · rename_i e
            cases h
            have := O.bl e
            have := O.b1
            exact rg _ ⟨by omega, by omega⟩
          · split at h
            · cases h
              exact rg _ (alu_word (rw0 _) (rw0 _))
            · cases h
              exact rg _ (alu_word (rw0 _) (mod_word _))
theorem step_ok {I : Img} {data : List Int} {s : MS} (IO : ImgOk I) (hd : ∀ x ∈ data, Byte x) (M : MsOk I data s) : MsOk I data (stepM I data s) := by
  have en : ∀ e, MsOk I data { s with en := e } := fun e => ⟨M.len, M.rw, M.pc, M.ml, M.mr, M.mb, M.tk⟩
  have jp : ∀ n t, MsOk I data { s with regs := setR s.regs n ((s.pc + 4) % 4294967296), pc := t % 4294967296 } := fun n t => ⟨(setR_ok M.len M.rw (mod_word _)).1, (setR_ok M.len M.rw (mod_word _)).2, mod_word _, M.ml, M.mr, M.mb, M.tk⟩
  unfold stepM
  split
  · split
    · exact en _
    · rename_i v ef
      split
      · exact en _
      · rename_i i ed
        have v0 : 0 ≤ v := by
          unfold fetchM at ef
          cases e1 : loadOk I s.pc 4 with
          | none => rw [e1] at ef; cases ef
          | some k =>
            rw [e1] at ef
            have ef' : (if (segOf I k).ex = true then some (rdM (segOf I k).vals (s.pc - (segOf I k).base).toNat 4) else none) = some v := ef
            split at ef'
            · cases ef'
              obtain ⟨u, hu, hin⟩ := home_some (loadOk_home e1)
              rw [segOf_at hu]
              obtain ⟨g0, g1, g2⟩ := inSeg_place hin (n := 4) rfl
              exact (rdM_bound 4 g1 (IO.segs _ (List.mem_of_getElem? hu)).bs).1
            · cases ef'
        have O := decM_ok v0 ed
        unfold execM
        split
        · unfold jumpM
          split
          · exact en _
          · split
            · exact jp _ _
            · split
              · exact jp _ _
              · exact ⟨M.len, M.rw, mod_word _, M.ml, M.mr, M.mb, M.tk⟩
        · split
          · exact en _
          · rename_i s' ep
            have z := plain_ok IO hd M O ep
            exact ⟨z.len, z.rw, mod_word _, z.ml, z.mr, z.mb, z.tk⟩
  · exact M
/-- up to n steps: the state behind, the places -/
def goM (I : Img) (data : List Int) : Nat → MS → MS × List Int
  | 0, s => (s, [])
  | n + 1, s => if s.en.live = true then ((goM I data n (stepM I data s)).1, s.pc :: (goM I data n (stepM I data s)).2) else (s, [])
theorem goM_live {I : Img} {data : List Int} {n : Nat} {s : MS} (h : s.en.live = true) : goM I data (n + 1) s = ((goM I data n (stepM I data s)).1, s.pc :: (goM I data n (stepM I data s)).2) := if_pos h
theorem goM_dead {I : Img} {data : List Int} {n : Nat} {s : MS} (h : s.en.live = false) : goM I data n s = (s, []) := by
  cases n with
  | zero => rfl
  | succ n => exact if_neg (by rw [h]; decide)
end Rs
set_option maxHeartbeats 4000000
/-! The program's defs: whole runs. -/
namespace Rs
open PySem PySem.Spec PyProof.Rows L2
def atM (I : Img) (data : List Int) : Nat → MS
  | 0 => startM I
  | n + 1 => stepM I data (atM I data n)
theorem at_ok {I : Img} {data : List Int} (IO : ImgOk I) (hb : ∀ x ∈ data, Byte x) : ∀ n, MsOk I data (atM I data n)
  | 0 => start_ok IO
  | n + 1 => step_ok IO hb (at_ok IO hb n)
theorem at_out {I : Img} {data : List Int} : ∀ n, (atM I data n).out.length ≤ n
  | 0 => Nat.le_refl 0
  | n + 1 => Nat.le_trans out_step (Nat.succ_le_succ (at_out n))
/-- j steps done, all of them alive, of m + j -/
def Mid (I : Img) (data : List Int) (m : Nat) (j : Nat) (ns : List Int) (n : Nat) : Prop := m + j = n ∧ ns.length = j ∧ goM I data n (startM I) = ((goM I data m (atM I data j)).1, ns ++ (goM I data m (atM I data j)).2)
theorem mid_0 {I : Img} {data : List Int} {n : Nat} : Mid I data n 0 [] n := ⟨rfl, rfl, rfl⟩
theorem mid_step {I : Img} {data : List Int} {m j n : Nat} {ns : List Int} (h : Mid I data (m + 1) j ns n) (hl : (atM I data j).en.live = true) : Mid I data m (j + 1) (ns ++ [(atM I data j).pc]) n := by
  obtain ⟨a, b, c⟩ := h
  refine ⟨by omega, by rw [List.length_append, b]; rfl, ?_⟩
  rw [goM_live hl] at c
  rw [c, List.append_assoc]
  rfl
theorem mid_end {I : Img} {data : List Int} {m j n : Nat} {ns : List Int} (h : Mid I data m j ns n) (he : m = 0 ∨ (atM I data j).en.live = false) : goM I data n (startM I) = (atM I data j, ns) := by
  obtain ⟨a, b, c⟩ := h
  rw [c]
  rcases he with rfl | hd
  · show (atM I data j, ns ++ []) = _
    rw [List.append_nil]
  · rw [goM_dead hd, List.append_nil]
section
variable {P : Program} {w : World} {K : PySem.W.Frag} {mg : Str → Option Value} {base : Heap}
def RunIn (I : Img) (data : List Int) (dd : D) (n : Nat) (ds : List D) (w : Wd) : Prop := ds = [imgD I, dd, .int (n : Nat)] ∧ ImgOk I ∧ (∀ x ∈ data, Byte x) ∧ DataAt w dd data ∧ n ≤ 500

theorem sc_last_state : FnScope ["image", "data", "fuel", "state", "turn"] ["image", "data", "fuel"] (defScope (top 34)) := ⟨rfl, rfl, rfl, by decide +kernel, rfl, by decide +kernel, by decide +kernel⟩
def fLast : DSp := fun ds w P => ∃ I data dd n, RunIn I data dd n ds w ∧ P (msD (goM I data n (startM I)).1) w
theorem ok_last_state (T : Tx K mg) (k_start : Kp P w K mg base 2 "start" ["image"] fStart) (k_step : Kp P w K mg base 6 "step" ["image", "data", "state"] fStep) : KpK P w K mg base 7 "last_state" ["image", "data", "fuel"] 2 ["fuel"] fLast := by
  have sc := sc_last_state
  obtain ⟨f, fd, hm, FD⟩ := T.has 24 (i := 34) (x := "last_state") rfl
  refine kpk_of FD hm sc (fun _ _ _ _ _ _ us ws hl hk => match us, hl, ws, hk with | [_, _], _, [_], _ => rfl) fun cdv A outer s H E hr => ⟨_, (wss_cons (ws_set (i := 3) sc.nd (we_call (k_start.mono (by decide)) hr (wa_cons (we_var 0) wa_nil)))
    (wss_cons (ws_forR (i := 4) PassesOwn.never (by rfl) sc.nd (T.fre 1 rfl) (we_var 2) (wss_cons (ws_if (wt_ne hr (we_ix (we_var 3) we_int) (we_tup (wa_cons we_str wa_nil))) (wss_one ws_break) wss_nil)
    (wss_one (ws_set (i := 3) sc.nd (we_call (k_step.mono (by decide)) hr (wa_cons (we_var 0) (wa_cons (we_var 1) (wa_cons (we_var 3) wa_nil))))))))
    (wss_one (ws_ret (we_var 3))))), fun ds wd Q hl hF => ?_⟩
  obtain ⟨I, data, dd, n, ⟨rfl, IO, hb, hd, hn⟩, q⟩ := hF
  have M := at_ok IO hb
  refine ⟨rfl, I, rfl, IO.ns, by omega, by omega, fun j ρ w' => ∃ ns, w' = wd ∧ Mid I data (n - j) j ns n ∧ ∃ z, ρ = [some (imgD I), some dd, some (.int (n : Nat)), some (msD (atM I data j)), z], ⟨[], rfl, mid_0, none, rfl⟩, ?_, ?_⟩
  · rintro j ρ w' hj ⟨ns, rfl, hm, z, rfl⟩
    rw [Int.toNat_natCast] at hj
    refine ⟨_, rfl, sz rfl, ne_en ⟨fun h => ?_, fun h => ?_⟩⟩
    · have h' : (!(atM I data j).en.live) = true := h
      have hl : (atM I data j).en.live = false := by simpa using h'
      have e := mid_end hm (.inr hl)
      rw [e] at q
      exact le_w q
    · have h' : (!(atM I data j).en.live) = false := h
      have hl : (atM I data j).en.live = true := by simpa using h'
      have e : n - j = (n - (j + 1)) + 1 := by omega
      rw [e] at hm
      exact ⟨rfl, I, data, atM I data j, dd, rfl, IO, M j, hd, Nat.le_trans (at_out j) (by omega), _, rfl, mid_step hm hl, _, rfl⟩
  · rintro ρ w' ⟨ns, rfl, hm, z, rfl⟩
    rw [Int.toNat_natCast] at hm
    have e := mid_end hm (.inl (by omega))
    rw [e] at q
    rw [Int.toNat_natCast]
    exact le_w q

theorem sc_run : FnScope ["image", "data", "fuel", "state", "steps"] ["image", "data", "fuel"] (defScope (top 35)) := ⟨rfl, rfl, rfl, by decide +kernel, rfl, by decide +kernel, by decide +kernel⟩
def fRun : DSp := fun ds w P => ∃ I data dd n, RunIn I data dd n ds w ∧ ∀ a, w a = none → P (.tup [.ref a, enD (goM I data n (startM I)).1.en, .int ((goM I data n (startM I)).2.length : Nat)]) (updW w a (.lst ((goM I data n (startM I)).1.out.map D.int)))
theorem ok_run (T : Tx K mg) (k_start : Kp P w K mg base 2 "start" ["image"] fStart) (k_step : Kp P w K mg base 6 "step" ["image", "data", "state"] fStep) : KpK P w K mg base 7 "run" ["image", "data", "fuel"] 2 ["fuel"] fRun := by
  have sc := sc_run
  obtain ⟨f, fd, hm, FD⟩ := T.has 25 (i := 35) (x := "run") rfl
  refine kpk_of FD hm sc (fun _ _ _ _ _ _ us ws hl hk => match us, hl, ws, hk with | [_, _], _, [_], _ => rfl) fun cdv A outer s H E hr => ⟨_, (wss_cons (ws_set (i := 3) sc.nd (we_call (k_start.mono (by decide)) hr (wa_cons (we_var 0) wa_nil)))
    (wss_cons (ws_set (i := 4) sc.nd we_int)
    (wss_cons (ws_while PassesOwn.never (PW.pt (ww_and (wt_lt (we_var 4) (we_var 2)) (ww_and1 (wt_eq hr (we_ix (we_var 3) we_int) (we_tup (wa_cons we_str wa_nil)))))) (wss_cons (ws_set (i := 3) sc.nd (we_call (k_step.mono (by decide)) hr (wa_cons (we_var 0) (wa_cons (we_var 1) (wa_cons (we_var 3) wa_nil)))))
    (wss_one (ws_aug (i := 4) sc.nd we_int))))
    (wss_one (ws_ret (we_tup (wa_cons (we_listOf (T.fre 3 rfl) (wa_cons (we_ix (we_var 3) we_int) wa_nil)) (wa_cons (we_ix (we_var 3) we_int) (wa_cons (we_var 4) wa_nil))))))))), fun ds wd Q hl hF => ?_⟩
  obtain ⟨I, data, dd, n, ⟨rfl, IO, hb, hd, hn⟩, q⟩ := hF
  have M := at_ok IO hb
  refine ⟨rfl, I, rfl, IO.ns, fun m ρ w' => ∃ j ns, w' = wd ∧ Mid I data m j ns n ∧ ρ = [some (imgD I), some dd, some (.int (n : Nat)), some (msD (atM I data j)), some (.int (j : Nat))], ⟨n, 0, [], rfl, mid_0, rfl⟩, ?_⟩
  rintro m ρ w' ⟨j, ns, rfl, hm, rfl⟩
  have fin : (m = 0 ∨ (atM I data j).en.live = false) → dRet (dTup (dCons (dListOf (dCons (dIx (dVar 3) (dC (.int 4))) dNil)) (dCons (dIx (dVar 3) (dC (.int 5))) (dCons (dVar 4) dNil)))) (endD Q) [some (imgD I), some dd, some (.int (n : Nat)), some (msD (atM I data j)), some (.int (j : Nat))] w' := by
    intro he
    have e := mid_end hm he
    rw [e] at q
    have hl : ns.length = j := hm.2.1
    rw [hl] at q
    refine ⟨_, rfl, fun a ha => ⟨_, rfl, sz rfl, le_w (q a ha)⟩⟩
  refine ⟨fun h => ⟨_, rfl, sz rfl, eq_en ⟨fun h2 => ?_, fun h2 => ?_⟩⟩, fun h => ⟨fun z => absurd (show false = true from z) (by decide), fun _ => ?_⟩⟩
  · have h' : j < n := by have := of_decide_eq_true h; omega
    obtain ⟨m', rfl⟩ : ∃ m', m = m' + 1 := ⟨m - 1, by have := hm.1; omega⟩
    exact ⟨rfl, I, data, atM I data j, dd, rfl, IO, M j, hd, Nat.le_trans (at_out j) (by omega), ⟨j, rfl⟩, m', by omega, j + 1, _, rfl, mid_step hm h2, rfl⟩
  · exact fin (.inr h2)
  · have h' : ¬ j < n := by have := of_decide_eq_false h; omega
    exact fin (.inl (by have := hm.1; omega))

theorem sc_trace : GScope ["image", "data", "fuel", "state", "steps"] ["image", "data", "fuel"] (defScope (top 36)) := ⟨rfl, rfl, rfl, by decide +kernel, rfl, by decide +kernel, by decide +kernel⟩
def fTrace : DGp := fun ds w P => ∃ I data dd n, RunIn I data dd n ds w ∧ P (goM I data n (startM I)).2 w
theorem ok_trace (T : Tx K mg) (k_start : Kp P w K mg base 2 "start" ["image"] fStart) (k_step : Kp P w K mg base 6 "step" ["image", "data", "state"] fStep) : KpG P w K mg base 7 "trace" ["image", "data", "fuel"] 2 ["fuel"] fTrace := by
  have sc := sc_trace
  obtain ⟨f, fd, hm, FD⟩ := T.has 26 (i := 36) (x := "trace") rfl
  refine kpg_of FD hm sc (fun _ _ _ _ _ _ us ws hl hk => match us, hl, ws, hk with | [_, _], _, [_], _ => rfl) fun cdv A outer s H E pn hr => ⟨_, (wgs_cons (wg_plain (ws_set (i := 3) sc.nd (we_call (k_start.mono (by decide)) hr (wa_cons (we_var 0) wa_nil))))
    (wgs_cons (wg_plain (ws_set (i := 4) sc.nd we_int))
    (wgs_cons (wg_while owns_gcx (PW.pt (ww_and (wt_lt (we_var 4) (we_var 2)) (ww_and1 (wt_eq hr (we_ix (we_var 3) we_int) (we_tup (wa_cons we_str wa_nil)))))) (wgs_cons (wg_yield (we_ix (we_var 3) we_int))
    (wgs_cons (wg_plain (ws_set (i := 3) sc.nd (we_call (k_step.mono (by decide)) hr (wa_cons (we_var 0) (wa_cons (we_var 1) (wa_cons (we_var 3) wa_nil))))))
    (wgs_cons (wg_plain (ws_aug (i := 4) sc.nd we_int))
    wgs_nil))))
    wgs_nil))), fun ds wd Q hl hF => ?_⟩
  obtain ⟨I, data, dd, n, ⟨rfl, IO, hb, hd, hn⟩, q⟩ := hF
  have M := at_ok IO hb
  refine ⟨rfl, I, rfl, IO.ns, fun m ns ρ w' => ∃ j, w' = wd ∧ Mid I data m j ns n ∧ ρ = [some (imgD I), some dd, some (.int (n : Nat)), some (msD (atM I data j)), some (.int (j : Nat))], ⟨n, 0, rfl, mid_0, rfl⟩, ?_⟩
  rintro m ns ρ w' ⟨j, rfl, hm, rfl⟩
  have fin : (m = 0 ∨ (atM I data j).en.live = false) → Q ns w' := by
    intro he
    have e := mid_end hm he
    rw [e] at q
    exact q
  refine ⟨fun h => ⟨_, rfl, sz rfl, eq_en ⟨fun h2 => ?_, fun h2 => ?_⟩⟩, fun h => ⟨fun z => absurd (show false = true from z) (by decide), fun _ => ?_⟩⟩
  · have h' : j < n := by have := of_decide_eq_true h; omega
    obtain ⟨m', rfl⟩ : ∃ m', m = m' + 1 := ⟨m - 1, by have := hm.1; omega⟩
    have hl := hm.2.1
    exact ⟨sz2 (by omega), _, rfl, rfl, I, data, atM I data j, dd, rfl, IO, M j, hd, Nat.le_trans (at_out j) (by omega), ⟨j, rfl⟩, m', by omega, j + 1, rfl, mid_step hm h2, rfl⟩
  · exact fin (.inr h2)
  · have h' : ¬ j < n := by have := of_decide_eq_false h; omega
    exact fin (.inl (by have := hm.1; omega))
end
end Rs
set_option maxHeartbeats 4000000
/-! The law's defs: words, arithmetic. -/
namespace Rs
open PySem PySem.Spec PyProof.Rows L2
theorem le2 {w : Wd} {a b : Addr} {x y : MO} (ha : w a = none) (hb : updW w a x b = none) : LE w (updW (updW w a x) b y) := (LE.new ha).trans (LE.new hb)
section
variable {P : Program} {w : World} {K : PySem.W.Frag} {mg : Str → Option Value} {base : Heap}

theorem sc__law_ops : FnScope [] [] (defScope (top 40)) := ⟨rfl, rfl, rfl, by decide +kernel, rfl, by decide +kernel, by decide +kernel⟩
def fLOps : DSp := fun ds w P => ds = [] ∧ ∀ a, w a = none → P (.ref a) (updW w a (.lst (cOPS.map D.str)))
theorem ok__law_ops (T : Tx K mg) : Kp P w K mg base 1 "_law_ops" [] fLOps := by
  have sc := sc__law_ops
  obtain ⟨f, fd, hm, FD⟩ := T.has 29 (i := 40) (x := "_law_ops") rfl
  refine kp_of FD hm sc (fun _ _ _ _ _ _ us hl => match us, hl with | [], _ => rfl) fun cdv A outer s H E hr => ⟨_, (wss_one (ws_ret (we_lst (wa_cons we_str (wa_cons we_str (wa_cons we_str (wa_cons we_str (wa_cons we_str (wa_cons we_str (wa_cons we_str (wa_cons we_str (wa_cons we_str (wa_cons we_str (wa_cons we_str (wa_cons we_str (wa_cons we_str (wa_cons we_str (wa_cons we_str (wa_cons we_str (wa_cons we_str (wa_cons we_str (wa_cons we_str (wa_cons we_str (wa_cons we_str (wa_cons we_str (wa_cons we_str (wa_cons we_str (wa_cons we_str (wa_cons we_str (wa_cons we_str (wa_cons we_str (wa_cons we_str (wa_cons we_str (wa_cons we_str (wa_cons we_str (wa_cons we_str (wa_cons we_str (wa_cons we_str (wa_cons we_str (wa_cons we_str (wa_cons we_str wa_nil))))))))))))))))))))))))))))))))))))))))), fun ds wd Q hl hF => ?_⟩
  obtain ⟨rfl, q⟩ := hF
  exact ⟨sz rfl, fun a ha => le_w (q a ha)⟩

theorem sc__law_word : FnScope ["_law_row", "_law_word_here"] ["_law_row"] (defScope (top 41)) := ⟨rfl, rfl, rfl, by decide +kernel, rfl, by decide +kernel, by decide +kernel⟩
theorem ok__law_word (T : Tx K mg) (k__law_ops : Kp P w K mg base 1 "_law_ops" [] fLOps) : Kp P w K mg base 2 "_law_word" ["_law_row"] fEncode := by
  have sc := sc__law_word
  obtain ⟨f, fd, hm, FD⟩ := T.has 30 (i := 41) (x := "_law_word") rfl
  refine kp_of FD hm sc (fun _ _ _ _ _ _ us hl => match us, hl with | [_], _ => rfl) fun cdv A outer s H E hr => ⟨_, (wss_cons (ws_set (i := 1) sc.nd (we_add (we_mul (we_add (we_idxL (we_call0 (k__law_ops.mono (by decide)) hr) (we_ix (we_var 0) we_int)) we_int) (we_pow we_int we_int)) (we_mul (we_ix (we_var 0) we_int) (we_pow we_int we_int))))
    (wss_cons (ws_if (wt_eq hr (we_len (T.fre 0 rfl) (wa_cons (we_var 0) wa_nil)) we_int) (wss_one (ws_ret (we_var 1))) wss_nil)
    (wss_cons (ws_if (wt_eq hr (we_len (T.fre 0 rfl) (wa_cons (we_var 0) wa_nil)) we_int) (wss_one (ws_ret (we_add (we_var 1) (we_mod (we_intOf (T.fre 4 rfl) (wa_cons (we_ix (we_var 0) we_int) wa_nil)) (we_pow we_int we_int))))) wss_nil)
    (wss_cons (ws_if (wt_lt (we_idxL (we_call0 (k__law_ops.mono (by decide)) hr) (we_ix (we_var 0) we_int)) we_int) (wss_one (ws_ret (we_add (we_add (we_var 1) (we_mul (we_ix (we_var 0) we_int) (we_pow we_int we_int))) (we_mul (we_ix (we_var 0) we_int) (we_pow we_int we_int))))) wss_nil)
    (wss_one (ws_ret (we_add (we_add (we_var 1) (we_mul (we_ix (we_var 0) we_int) (we_pow we_int we_int))) (we_mod (we_intOf (T.fre 4 rfl) (wa_cons (we_ix (we_var 0) we_int) wa_nil)) (we_pow we_int we_int))))))))), fun ds wd Q hl hF => ?_⟩
  obtain ⟨i, rfl, ok, q⟩ := hF
  have hk := ok.hk
  refine ⟨rfl, rfl, fun a ha => ⟨⟨a, _, rfl, updW_same⟩, _, ins0, a, cOPS, opS i.k, i.k, rfl, updW_same, rfl, ops_at _ hk, ops_first _ hk, cpow (by decide) (by decide) (by decide) (by decide), .inl ⟨by omega, by omega⟩, _, ins1, cpow (by decide) (by decide) (by decide) (by decide), .inl ⟨by have := ok.a0; omega, by have := ok.a1; omega⟩, ?_⟩⟩
  have q0 : ∀ v, v = encM i → ∃ w', LE w' (updW wd a (.lst (cOPS.map D.str))) ∧ Q (.int v) w' := by
    rintro v rfl
    exact ⟨wd, LE.new ha, q⟩
  unfold encM at q0
  have q26 : (2 : Int) ^ (26 : Int).toNat = 67108864 := rfl
  have q22 : (2 : Int) ^ (22 : Int).toNat = 4194304 := rfl
  have q18 : (2 : Int) ^ (18 : Int).toNat = 262144 := rfl
  have q14 : (2 : Int) ^ (14 : Int).toNat = 16384 := rfl
  have z18 : (0 : Int) < 2 ^ (18 : Int).toNat := by rw [q18]; decide
  have z14 : (0 : Int) < 2 ^ (14 : Int).toNat := by rw [q14]; decide
  have lenN : ∀ (m n : Int) (b : Bool), (((insL i).length : Nat) : Int) = m → decide ((((insL i).length : Nat) : Int) = n) = b → decide (m = n) = b := by
    rintro m n b rfl rfl
    rfl
  by_cases h35 : 35 ≤ i.k
  · have el : (((insL i).length : Nat) : Int) = 2 := by rw [insL_1 h35]; rfl
    refine ⟨fun h => q0 _ ?_, fun h => absurd (lenN 2 2 _ el h) (by decide)⟩
    dsimp only
    rw [if_pos h35, q26, q22]
    omega
  · by_cases h3 : i.k = 21 ∨ i.k = 33
    · have el : (((insL i).length : Nat) : Int) = 3 := by rw [insL_2 h35 h3]; rfl
      refine ⟨fun h => absurd (lenN 3 2 _ el h) (by decide), fun h => ⟨fun h2 => ⟨_, ins2 h35, cpow (by decide) (by decide) (by decide) (by decide), z18, q0 _ ?_⟩, fun h2 => absurd (lenN 3 3 _ el h2) (by decide)⟩⟩
      dsimp only
      rw [if_neg h35, if_pos h3, q26, q22, q18]
    · have el : (((insL i).length : Nat) : Int) = 4 := by rw [insL_3 h35 h3]; rfl
      have hb := ok.br h3
      refine ⟨fun h => absurd (lenN 4 2 _ el h) (by decide), fun h => ⟨fun h2 => absurd (lenN 4 3 _ el h2) (by decide), fun h2 => ?_⟩⟩
      refine ⟨rfl, rfl, fun b hb2 => ⟨⟨b, _, rfl, updW_same⟩, _, ins0, b, cOPS, opS i.k, i.k, rfl, updW_same, rfl, ops_at _ hk, ops_first _ hk, fun h4 => ?_, fun h4 => ?_⟩⟩
      · have h13 : i.k < 13 := by have := of_decide_eq_true h4; omega
        obtain ⟨c0, c1⟩ := ok.cr h13
        refine ⟨_, ins2 h35, cpow (by decide) (by decide) (by decide) (by decide), .inl ⟨by omega, by omega⟩, _, ins3 h35 h3, cpow (by decide) (by decide) (by decide) (by decide), .inl ⟨by omega, by omega⟩, ?_⟩
        obtain ⟨w', hle, hq⟩ := q0 _ rfl
        refine ⟨w', hle.trans (LE.new hb2), qi hq ?_⟩
        dsimp only
        rw [if_neg h35, if_neg h3, if_pos h13, q26, q22, q18, q14]
        omega
      · have h13 : ¬ i.k < 13 := by have := of_decide_eq_false h4; omega
        refine ⟨_, ins2 h35, cpow (by decide) (by decide) (by decide) (by decide), .inl ⟨by omega, by omega⟩, _, ins3 h35 h3, cpow (by decide) (by decide) (by decide) (by decide), z14, ?_⟩
        obtain ⟨w', hle, hq⟩ := q0 _ rfl
        refine ⟨w', hle.trans (LE.new hb2), qi hq ?_⟩
        dsimp only
        rw [if_neg h35, if_neg h3, if_neg h13, q26, q22, q18, q14]
        omega

theorem sc__law_signed : FnScope ["_law_x"] ["_law_x"] (defScope (top 60)) := ⟨rfl, rfl, rfl, by decide +kernel, rfl, by decide +kernel, by decide +kernel⟩
theorem ok__law_signed (T : Tx K mg) : Kp P w K mg base 1 "_law_signed" ["_law_x"] fSigned := by
  have sc := sc__law_signed
  obtain ⟨f, fd, hm, FD⟩ := T.has 49 (i := 60) (x := "_law_signed") rfl
  refine kp_of FD hm sc (fun _ _ _ _ _ _ us hl => match us, hl with | [_], _ => rfl) fun cdv A outer s H E hr => ⟨_, (wss_one (ws_ret (we_if (wt_ge (we_var 0) (we_pow we_int we_int)) (we_sub (we_var 0) (we_pow we_int we_int)) (we_var 0)))), fun ds wd Q hl hF => ?_⟩
  obtain ⟨x, rfl, ⟨h0, h1⟩, q⟩ := hF
  unfold sgn32 at q
  refine ⟨cpow (by decide) (by decide) (by decide) (by decide), fun h => ?_, fun h => ?_⟩
  · have h' : decide ((2147483648 : Int) ≤ x) = true := h
    rw [if_pos (of_decide_eq_true h')] at q
    exact ⟨cpow (by decide) (by decide) (by decide) (by decide), le_w q⟩
  · have h' : decide ((2147483648 : Int) ≤ x) = false := h
    rw [if_neg (of_decide_eq_false h')] at q
    exact le_w q

theorem sc__law_result : FnScope ["_law_op", "_law_x", "_law_y", "_law_n"] ["_law_op", "_law_x", "_law_y"] (defScope (top 61)) := ⟨rfl, rfl, rfl, by decide +kernel, rfl, by decide +kernel, by decide +kernel⟩
def fLResult : DSp := fun ds w P => ∃ k x y, ds = [.str (opS k), .int x, .int y] ∧ k < 13 ∧ Word x ∧ Word y ∧ P (.int (alu k x y)) w
theorem ok__law_result (T : Tx K mg) (k__law_signed : Kp P w K mg base 1 "_law_signed" ["_law_x"] fSigned) : Kp P w K mg base 2 "_law_result" ["_law_op", "_law_x", "_law_y"] fLResult := by
  have sc := sc__law_result
  obtain ⟨f, fd, hm, FD⟩ := T.has 50 (i := 61) (x := "_law_result") rfl
  refine kp_of FD hm sc (fun _ _ _ _ _ _ us hl => match us, hl with | [_, _, _], _ => rfl) fun cdv A outer s H E hr => ⟨_, (wss_cons (ws_set (i := 3) sc.nd (we_mod (we_intOf (T.fre 4 rfl) (wa_cons (we_var 2) wa_nil)) we_int))
    (wss_cons (ws_if (wt_eq hr (we_var 0) we_str) (wss_one (ws_ret (we_mod (we_intOf (T.fre 4 rfl) (wa_cons (we_add (we_var 1) (we_var 2)) wa_nil)) (we_pow we_int we_int)))) wss_nil)
    (wss_cons (ws_if (wt_eq hr (we_var 0) we_str) (wss_one (ws_ret (we_mod (we_intOf (T.fre 4 rfl) (wa_cons (we_sub (we_var 1) (we_var 2)) wa_nil)) (we_pow we_int we_int)))) wss_nil)
    (wss_cons (ws_if (wt_eq hr (we_var 0) we_str) (wss_one (ws_ret (we_mod (we_intOf (T.fre 4 rfl) (wa_cons (we_mul (we_var 1) (we_var 2)) wa_nil)) (we_pow we_int we_int)))) wss_nil)
    (wss_cons (ws_if (wt_eq hr (we_var 0) we_str) (wss_one (ws_ret (we_band (we_var 1) (we_var 2)))) wss_nil)
    (wss_cons (ws_if (wt_eq hr (we_var 0) we_str) (wss_one (ws_ret (we_bor (we_var 1) (we_var 2)))) wss_nil)
    (wss_cons (ws_if (wt_eq hr (we_var 0) we_str) (wss_one (ws_ret (we_bxor (we_var 1) (we_var 2)))) wss_nil)
    (wss_cons (ws_if (wt_eq hr (we_var 0) we_str) (wss_one (ws_ret (we_mod (we_intOf (T.fre 4 rfl) (wa_cons (we_mul (we_var 1) (we_shl we_int (we_var 3))) wa_nil)) (we_pow we_int we_int)))) wss_nil)
    (wss_cons (ws_if (wt_eq hr (we_var 0) we_str) (wss_one (ws_ret (we_fdiv (we_var 1) (we_shl we_int (we_var 3))))) wss_nil)
    (wss_cons (ws_if (wt_eq hr (we_var 0) we_str) (wss_one (ws_ret (we_mod (we_intOf (T.fre 4 rfl) (wa_cons (we_fdiv (we_call (k__law_signed.mono (by decide)) hr (wa_cons (we_var 1) wa_nil)) (we_shl we_int (we_var 3))) wa_nil)) (we_pow we_int we_int)))) wss_nil)
    (wss_cons (ws_if (wt_eq hr (we_var 0) we_str) (wss_one (ws_ret (we_if (wt_lt (we_call (k__law_signed.mono (by decide)) hr (wa_cons (we_var 1) wa_nil)) (we_call (k__law_signed.mono (by decide)) hr (wa_cons (we_var 2) wa_nil))) we_int we_int))) wss_nil)
    (wss_cons (ws_if (wt_eq hr (we_var 0) we_str) (wss_one (ws_ret (we_if (wt_lt (we_var 1) (we_var 2)) we_int we_int))) wss_nil)
    (wss_cons (ws_if (wt_eq hr (we_var 0) we_str) (wss_one (ws_ret (we_if (wt_eq hr (we_var 2) we_int) (we_sub (we_pow we_int we_int) we_int) (we_fdiv (we_var 1) (we_var 2))))) wss_nil)
    (wss_one (ws_ret (we_if (wt_eq hr (we_var 2) we_int) (we_var 1) (we_sub (we_var 1) (we_mul (we_var 2) (we_fdiv (we_var 1) (we_var 2)))))))))))))))))))), fun ds wd Q hl hF => ?_⟩
  obtain ⟨k, x, y, rfl, hk13, hx, hy, q⟩ := hF
  have hk : k < 38 := by omega
  obtain ⟨x0, x1⟩ := id hx
  obtain ⟨y0, y1⟩ := id hy
  obtain ⟨s0, s1⟩ := sgn32_b hx
  have pw2 : CPow 2 32 := cpow (by decide) (by decide) (by decide) (by decide)
  have psh : CPow 1 (y % 32) := cpow (by omega) (by omega) (by decide) (by decide)
  have e1 : (1 : Int) * 2 ^ (y % 32).toNat = 2 ^ sh y := Int.one_mul _
  have q32 : (2 : Int) ^ (32 : Int).toNat = 4294967296 := rfl
  have psz : (2 : Int) ^ sh y ≤ 2147483648 := by
    have h1 : sh y ≤ 31 := by unfold sh; omega
    have h2 : (2 : Nat) ^ sh y ≤ 2 ^ 31 := Nat.pow_le_pow_right (by decide) h1
    exact Int.ofNat_le.mpr h2
  have pgt := pow_sh y
  have z32 : (0 : Int) < 2 ^ (32 : Int).toNat := by rw [q32]; decide
  have dsh : ∀ i : Int, CDivW i (1 * 2 ^ (y % 32).toNat) := fun i => by rw [e1]; exact wide_div (b := 33) (by omega) (by omega) (by decide) (by decide)
  have dy : decide (y = 0) = false → ∀ i : Int, CDivW i y := fun g i => by have := of_decide_eq_false g; exact wide_div (b := 33) (by omega) (by omega) (by decide) (by decide)
  have qe : ∀ v, v = alu k x y → ∃ w', LE w' wd ∧ Q (.int v) w' := by
    rintro v rfl
    exact le_w q
  unfold alu at qe
  refine ⟨(by decide : (0 : Int) < 32), fun h => ?_, fun h => ⟨fun h2 => ?_, fun h2 => ⟨fun h3 => ?_, fun h3 => ⟨fun h4 => ?_, fun h4 => ⟨fun h5 => ?_, fun h5 => ⟨fun h6 => ?_, fun h6 => ⟨fun h7 => ?_, fun h7 => ⟨fun h8 => ?_, fun h8 => ⟨fun h9 => ?_, fun h9 => ⟨fun g1 => ?_, fun g1 => ⟨fun g2 => ?_, fun g2 => ⟨fun g3 => ?_, fun g3 => ?_⟩⟩⟩⟩⟩⟩⟩⟩⟩⟩⟩⟩
  · have e := of_decide_eq_true (aeq hk 0 (by decide) h)
    subst e
    exact ⟨pw2, z32, qe _ (by dsimp only; rw [q32]; rfl)⟩
  · have e := of_decide_eq_true (aeq hk 1 (by decide) h2)
    subst e
    exact ⟨pw2, z32, qe _ (by dsimp only; rw [q32]; rfl)⟩
  · have e := of_decide_eq_true (aeq hk 2 (by decide) h3)
    subst e
    exact ⟨.inl ⟨by omega, by omega⟩, pw2, z32, qe _ (by dsimp only; rw [q32]; rfl)⟩
  · have e := of_decide_eq_true (aeq hk 3 (by decide) h4)
    subst e
    exact qe _ rfl
  · have e := of_decide_eq_true (aeq hk 4 (by decide) h5)
    subst e
    exact qe _ rfl
  · have e := of_decide_eq_true (aeq hk 5 (by decide) h6)
    subst e
    exact qe _ rfl
  · have e := of_decide_eq_true (aeq hk 6 (by decide) h7)
    subst e
    exact ⟨psh, .inl ⟨by omega, by omega⟩, pw2, z32, qe _ (by dsimp only; rw [q32, e1]; rfl)⟩
  · have e := of_decide_eq_true (aeq hk 7 (by decide) h8)
    subst e
    exact ⟨psh, dsh _, qe _ (by dsimp only; rw [e1]; rfl)⟩
  · have e := of_decide_eq_true (aeq hk 8 (by decide) h9)
    subst e
    exact ⟨rfl, x, rfl, hx, psh, dsh _, pw2, z32, qe _ (by dsimp only; rw [q32, e1]; rfl)⟩
  · have e := of_decide_eq_true (aeq hk 9 (by decide) g1)
    subst e
    refine ⟨rfl, x, rfl, hx, rfl, y, rfl, hy, fun g => qe _ ?_, fun g => qe _ ?_⟩
    · exact (if_pos (of_decide_eq_true g)).symm
    · exact (if_neg (of_decide_eq_false g)).symm
  · have e := of_decide_eq_true (aeq hk 10 (by decide) g2)
    subst e
    refine ⟨fun g => qe _ ?_, fun g => qe _ ?_⟩
    · exact (if_pos (of_decide_eq_true g)).symm
    · exact (if_neg (of_decide_eq_false g)).symm
  · have e := of_decide_eq_true (aeq hk 11 (by decide) g3)
    subst e
    refine ⟨fun g => ⟨pw2, qe _ ?_⟩, fun g => ⟨dy g _, qe _ ?_⟩⟩
    · exact (if_pos (of_decide_eq_true g)).symm
    · exact (if_neg (of_decide_eq_false g)).symm
  · have n1 := of_decide_eq_false (aeq hk 0 (by decide) h)
    have n2 := of_decide_eq_false (aeq hk 1 (by decide) h2)
    have n3 := of_decide_eq_false (aeq hk 2 (by decide) h3)
    have n4 := of_decide_eq_false (aeq hk 3 (by decide) h4)
    have n5 := of_decide_eq_false (aeq hk 4 (by decide) h5)
    have n6 := of_decide_eq_false (aeq hk 5 (by decide) h6)
    have n7 := of_decide_eq_false (aeq hk 6 (by decide) h7)
    have n8 := of_decide_eq_false (aeq hk 7 (by decide) h8)
    have n9 := of_decide_eq_false (aeq hk 8 (by decide) h9)
    have n10 := of_decide_eq_false (aeq hk 9 (by decide) g1)
    have n11 := of_decide_eq_false (aeq hk 10 (by decide) g2)
    have n12 := of_decide_eq_false (aeq hk 11 (by decide) g3)
    have e : k = 12 := by omega
    subst e
    refine ⟨fun g => qe _ ?_, fun g => ⟨dy g _, .inl ⟨by omega, by omega⟩, qe _ ?_⟩⟩
    · exact (if_pos (of_decide_eq_true g)).symm
    · have e2 : x - x / y * y = if y = 0 then x else x - x / y * y := (if_neg (of_decide_eq_false g)).symm
      dsimp only
      rw [Int.mul_comm y]
      exact e2

theorem sc__law_holds : FnScope ["_law_op", "_law_x", "_law_y", "_law_a", "_law_b"] ["_law_op", "_law_x", "_law_y"] (defScope (top 62)) := ⟨rfl, rfl, rfl, by decide +kernel, rfl, by decide +kernel, by decide +kernel⟩
theorem ok__law_holds (T : Tx K mg) (k__law_signed : Kp P w K mg base 1 "_law_signed" ["_law_x"] fSigned) : Kp P w K mg base 2 "_law_holds" ["_law_op", "_law_x", "_law_y"] fHolds := by
  have sc := sc__law_holds
  obtain ⟨f, fd, hm, FD⟩ := T.has 51 (i := 62) (x := "_law_holds") rfl
  refine kp_of FD hm sc (fun _ _ _ _ _ _ us hl => match us, hl with | [_, _, _], _ => rfl) fun cdv A outer s H E hr => ⟨_, (wss_cons (ws_set (i := 3) sc.nd (we_call (k__law_signed.mono (by decide)) hr (wa_cons (we_var 1) wa_nil)))
    (wss_cons (ws_set (i := 4) sc.nd (we_call (k__law_signed.mono (by decide)) hr (wa_cons (we_var 2) wa_nil)))
    (wss_cons (ws_if (wt_eq hr (we_var 0) we_str) (wss_one (ws_ret (we_eq hr (we_var 1) (we_var 2)))) wss_nil)
    (wss_cons (ws_if (wt_eq hr (we_var 0) we_str) (wss_one (ws_ret (we_ne hr (we_var 1) (we_var 2)))) wss_nil)
    (wss_cons (ws_if (wt_eq hr (we_var 0) we_str) (wss_one (ws_ret (we_lt (we_var 3) (we_var 4)))) wss_nil)
    (wss_cons (ws_if (wt_eq hr (we_var 0) we_str) (wss_one (ws_ret (we_ge (we_var 3) (we_var 4)))) wss_nil)
    (wss_cons (ws_if (wt_eq hr (we_var 0) we_str) (wss_one (ws_ret (we_lt (we_var 1) (we_var 2)))) wss_nil)
    (wss_one (ws_ret (we_ge (we_var 1) (we_var 2))))))))))), fun ds wd Q hl hF => ?_⟩
  obtain ⟨k, x, y, rfl, hk1, hk2, hx, hy, q⟩ := hF
  have hk : k < 38 := by omega
  unfold holdsM at q
  refine ⟨rfl, x, rfl, hx, rfl, y, rfl, hy, fun h => ?_, fun h => ⟨fun h2 => ?_, fun h2 => ⟨fun h3 => ?_, fun h3 => ⟨fun h4 => ?_, fun h4 => ⟨fun h5 => ?_, fun h5 => ?_⟩⟩⟩⟩⟩
  · have e := of_decide_eq_true (aeq hk 27 (by decide) h)
    subst e
    exact le_w q
  · have e := of_decide_eq_true (aeq hk 28 (by decide) h2)
    subst e
    exact le_w q
  · have e := of_decide_eq_true (aeq hk 29 (by decide) h3)
    subst e
    exact le_w q
  · have e := of_decide_eq_true (aeq hk 30 (by decide) h4)
    subst e
    exact le_w q
  · have e := of_decide_eq_true (aeq hk 31 (by decide) h5)
    subst e
    exact le_w q
  · have e1 := of_decide_eq_false (aeq hk 27 (by decide) h)
    have e2 := of_decide_eq_false (aeq hk 28 (by decide) h2)
    have e3 := of_decide_eq_false (aeq hk 29 (by decide) h3)
    have e4 := of_decide_eq_false (aeq hk 30 (by decide) h4)
    have e5 := of_decide_eq_false (aeq hk 31 (by decide) h5)
    have e : k = 32 := by omega
    subst e
    exact le_w q

theorem sc__law_home : FnScope ["_law_image_here", "_law_address", "_law_count", "_law_k", "_law_row"] ["_law_image_here", "_law_address", "_law_count"] (defScope (top 63)) := ⟨rfl, rfl, rfl, by decide +kernel, rfl, by decide +kernel, by decide +kernel⟩
theorem ok__law_home (T : Tx K mg) : Kp P w K mg base 1 "_law_home" ["_law_image_here", "_law_address", "_law_count"] fFind := by
  have sc := sc__law_home
  obtain ⟨f, fd, hm, FD⟩ := T.has 52 (i := 63) (x := "_law_home") rfl
  refine kp_of FD hm sc (fun _ _ _ _ _ _ us hl => match us, hl with | [_, _, _], _ => rfl) fun cdv A outer s H E hr => ⟨_, (wss_cons (ws_forR (i := 3) PassesOwn.never (by rfl) sc.nd (T.fre 1 rfl) (we_len (T.fre 0 rfl) (wa_cons (we_ix (we_var 0) we_int) wa_nil)) (wss_cons (ws_set (i := 4) sc.nd (we_ix (we_ix (we_var 0) we_int) (we_var 3)))
    (wss_one (ws_if (PW.pt (ww_and (wt_le (we_ix (we_var 4) we_int) (we_var 1)) (ww_and1 (wt_le (we_add (we_var 1) (we_var 2)) (we_add (we_ix (we_var 4) we_int) (we_len (T.fre 0 rfl) (wa_cons (we_ix (we_var 4) we_int) wa_nil))))))) (wss_one (ws_ret (we_var 3))) wss_nil))))
    (wss_one (ws_ret (we_neg we_int)))), fun ds wd Q hl hF => ?_⟩
  obtain ⟨I, a, c, rfl, hn, q⟩ := hF
  refine ⟨_, rfl, ?_, ?_, fun k ρ w' => w' = wd ∧ (∃ x y, ρ = [some (imgD I), some (.int a), some (.int c), x, y]) ∧ ∀ j, j < k → ∀ u, I.segs[j]? = some u → inSeg a c u = false, ⟨rfl, ⟨none, none, rfl⟩, fun j hj => absurd hj (Nat.not_lt_zero j)⟩, ?_, ?_⟩
  · show -(2 ^ 62) ≤ (((I.segs.map segD).length : Nat) : Int)
    omega
  · show (((I.segs.map segD).length : Nat) : Int) < 2 ^ 62
    rw [List.length_map]
    omega
  · rintro k ρ w' hk ⟨rfl, ⟨x, y, rfl⟩, hno⟩
    have hk' : k < I.segs.length := by
      have : k < ((((I.segs.map segD).length : Nat) : Int)).toNat := hk
      rw [List.length_map] at this
      omega
    have hs : I.segs[k]? = some I.segs[k] := List.getElem?_eq_getElem hk'
    refine ⟨_, rfl, _, atI_map hs, _, rfl, fun h1 => ⟨_, rfl, _, rfl, fun h2 => ?_, fun h2 => ?_⟩, fun h1 => ⟨fun z => absurd (show false = true from z) (by decide), fun _ => ?_⟩⟩
    · have e : homeM I.segs a c = some k := home_found hs (by
        unfold inSeg
        have g1 : decide (I.segs[k].base ≤ a) = true := h1
        have g2 : decide (a + c ≤ I.segs[k].base + (((I.segs[k].vals.map D.int).length : Nat) : Int)) = true := h2
        rw [List.length_map] at g2
        exact decide_eq_true ⟨of_decide_eq_true g1, of_decide_eq_true g2⟩) hno
      rw [e] at q
      exact le_w q
    · refine ⟨rfl, ⟨_, _, rfl⟩, fun j hj u hu => ?_⟩
      by_cases hjk : j = k
      · subst hjk
        rw [hs] at hu
        cases hu
        have g2 : decide (a + c ≤ I.segs[j].base + (((I.segs[j].vals.map D.int).length : Nat) : Int)) = false := h2
        rw [List.length_map] at g2
        unfold inSeg
        exact decide_eq_false fun z => of_decide_eq_false g2 z.2
      · exact hno j (by omega) u hu
    · refine ⟨rfl, ⟨_, _, rfl⟩, fun j hj u hu => ?_⟩
      by_cases hjk : j = k
      · subst hjk
        rw [hs] at hu
        cases hu
        have g1 : decide (I.segs[j].base ≤ a) = false := h1
        unfold inSeg
        exact decide_eq_false fun z => of_decide_eq_false g1 z.1
      · exact hno j (by omega) u hu
  · rintro ρ w' ⟨rfl, ⟨x, y, rfl⟩, hno⟩
    have e : homeM I.segs a c = none := home_none fun j hj => hno j (by
      show j < ((((I.segs.map segD).length : Nat) : Int)).toNat
      rw [List.length_map]
      omega)
    rw [e] at q
    exact le_w q

theorem inl_gpe : ∀ k, k < 38 → inS (opS k) [.str "get", .str "put", .str "exit"] = decide (35 ≤ k) := in_gpe
theorem sc__law_read : FnScope ["_law_word_here", "_law_number", "_law_op", "_law_a", "_law_b", "_law_low", "_law_wide", "_law_row"] ["_law_word_here"] (defScope (top 64)) := ⟨rfl, rfl, rfl, by decide +kernel, rfl, by decide +kernel, by decide +kernel⟩
theorem ok__law_read (T : Tx K mg) (k__law_ops : Kp P w K mg base 1 "_law_ops" [] fLOps) (k__law_word : Kp P w K mg base 2 "_law_word" ["_law_row"] fEncode) : Kp P w K mg base 3 "_law_read" ["_law_word_here"] fDecode := by
  have sc := sc__law_read
  obtain ⟨f, fd, hm, FD⟩ := T.has 53 (i := 64) (x := "_law_read") rfl
  refine kp_of FD hm sc (fun _ _ _ _ _ _ us hl => match us, hl with | [_], _ => rfl) fun cdv A outer s H E hr => ⟨_, (wss_cons (ws_set (i := 1) sc.nd (we_fdiv (we_var 0) we_int))
    (wss_cons (ws_if (wt_not (wt_chainLe we_int (we_var 1) we_int)) (wss_one (ws_ret we_non)) wss_nil)
    (wss_cons (ws_set (i := 2) sc.nd (we_ix (we_call0 (k__law_ops.mono (by decide)) hr) (we_sub (we_var 1) we_int)))
    (wss_cons (ws_set (i := 3) sc.nd (we_mod (we_fdiv (we_var 0) we_int) we_int))
    (wss_cons (ws_set (i := 4) sc.nd (we_mod (we_fdiv (we_var 0) we_int) we_int))
    (wss_cons (ws_set (i := 5) sc.nd (we_mod (we_intOf (T.fre 4 rfl) (wa_cons (we_var 0) wa_nil)) we_int))
    (wss_cons (ws_set (i := 6) sc.nd (we_mod (we_intOf (T.fre 4 rfl) (wa_cons (we_var 0) wa_nil)) we_int))
    (wss_cut (ws_if (wt_inL (we_var 2) (wa_cons we_str (wa_cons we_str (wa_cons we_str wa_nil)))) (wss_one (ws_set (i := 7) sc.nd (we_tup (wa_cons (we_var 2) (wa_cons (we_var 3) wa_nil))))) (wss_one (ws_if (wt_eq hr (we_var 2) we_str) (wss_one (ws_set (i := 7) sc.nd (we_tup (wa_cons (we_var 2) (wa_cons (we_var 3) (wa_cons (we_var 6) wa_nil)))))) (wss_one (ws_if (wt_eq hr (we_var 2) we_str) (wss_one (ws_set (i := 7) sc.nd (we_tup (wa_cons (we_var 2) (wa_cons (we_var 3) (wa_cons (we_if (wt_ge (we_var 6) we_int) (we_sub (we_var 6) we_int) (we_var 6)) wa_nil)))))) (wss_one (ws_if (wt_lt (we_var 1) we_int) (wss_one (ws_set (i := 7) sc.nd (we_tup (wa_cons (we_var 2) (wa_cons (we_var 3) (wa_cons (we_var 4) (wa_cons (we_mod (we_fdiv (we_var 0) we_int) we_int) wa_nil))))))) (wss_one (ws_set (i := 7) sc.nd (we_tup (wa_cons (we_var 2) (wa_cons (we_var 3) (wa_cons (we_var 4) (wa_cons (we_if (wt_ge (we_var 5) we_int) (we_sub (we_var 5) we_int) (we_var 5)) wa_nil))))))))))))))
    (wss_one (ws_ret (we_if (wt_eq hr (we_call (k__law_word.mono (by decide)) hr (wa_cons (we_var 7) wa_nil)) (we_var 0)) (we_var 7) we_non))))))))))), fun ds wd Q hl hF => ?_⟩
  obtain ⟨v, rfl, h0, q⟩ := hF
  have dv : ∀ i j : Int, 0 < j → j < 4294967296 → CDivW i j := fun i j h1 h2 => wide_div (b := 33) h1 (by omega) (by decide) (by decide)
  refine ⟨dv _ _ (by decide) (by decide), fun h1 => ⟨fun h => ?_, fun h => ?_⟩, fun h1 => ⟨fun _ => ?_, fun h => absurd (show true = false from h) (by decide)⟩⟩
  · have h' : (!decide (v / 67108864 ≤ 38)) = true := h
    have h2 : ¬ v / 67108864 ≤ 38 := by simpa using h'
    have e : decM v = none := by unfold decM fieldsM; rw [if_neg (fun z => h2 z.2)]; rfl
    rw [e] at q
    exact le_w q
  · have h' : (!decide (v / 67108864 ≤ 38)) = false := h
    have h2 : v / 67108864 ≤ 38 := by simpa using h'
    have h1' : 1 ≤ v / 67108864 := h1
    have hk : fieldK v < 38 := by unfold fieldK; omega
    have ek : v / 67108864 - 1 = ((fieldK v : Nat) : Int) := by unfold fieldK; omega
    have hat : atI (cOPS.map D.str) (v / 67108864 - 1) = some (.str (opS (fieldK v))) := by rw [ek]; exact atI_ops hk
    have ef : fieldsM v = some (fieldI v) := by unfold fieldsM; rw [if_pos ⟨h1', h2⟩]
    have ok := fieldsM_ok h0 ef
    have eo : decM v = if encM (fieldI v) = v then some (fieldI v) else none := by unfold decM; rw [ef]; rfl
    rw [eo] at q
    refine ⟨rfl, rfl, fun a ha => ⟨_, _, updW_same, hat, dv _ _ (by decide) (by decide), (by decide : (0 : Int) < 16), dv _ _ (by decide) (by decide), (by decide : (0 : Int) < 16), (by decide : (0 : Int) < 16384), (by decide : (0 : Int) < 262144), ?_⟩⟩
    refine ⟨fun ρ w' => w' = updW wd a (.lst (cOPS.map D.str)) ∧ ∃ x1 x2 x3 x4 x5 x6, ρ = [some (.int v), x1, x2, x3, x4, x5, x6, some (insD (fieldI v))], ?_, ?_⟩
    · refine ⟨sz rfl, rfl, fun g => ?_, fun g => ⟨fun g2 => ?_, fun g2 => ⟨fun g3 => ?_, fun g3 => ⟨fun g4 => ?_, fun g4 => ?_⟩⟩⟩⟩
      · rw [in_gpe _ hk] at g
        have h35 := of_decide_eq_true g
        have e : fieldI v = ⟨fieldK v, v / 4194304 % 16, 0, 0⟩ := by unfold fieldI; rw [if_pos h35]
        have e2 : insD (fieldI v) = .tup [.str (opS (fieldK v)), .int (v / 4194304 % 16)] := by rw [e]; exact congrArg D.tup (insL_1 h35)
        rw [e2]
        exact ⟨sz rfl, rfl, _, _, _, _, _, _, rfl⟩
      · rw [in_gpe _ hk] at g
        have h35 := of_decide_eq_false g
        have h21 := of_decide_eq_true (aeq hk 21 (by decide) g2)
        have e : fieldI v = ⟨fieldK v, v / 4194304 % 16, v % 262144, 0⟩ := by unfold fieldI; rw [if_neg h35, if_pos h21]
        have e2 : insD (fieldI v) = .tup [.str (opS (fieldK v)), .int (v / 4194304 % 16), .int (v % 262144)] := by rw [e]; exact congrArg D.tup (insL_2 h35 (.inl h21))
        rw [e2]
        exact ⟨sz rfl, rfl, _, _, _, _, _, _, rfl⟩
      · rw [in_gpe _ hk] at g
        have h35 := of_decide_eq_false g
        have h21 := of_decide_eq_false (aeq hk 21 (by decide) g2)
        have h33 := of_decide_eq_true (aeq hk 33 (by decide) g3)
        have e : fieldI v = ⟨fieldK v, v / 4194304 % 16, sgn (v % 262144) 18, 0⟩ := by unfold fieldI; rw [if_neg h35, if_neg h21, if_pos h33]
        have e2 : insD (fieldI v) = .tup [.str (opS (fieldK v)), .int (v / 4194304 % 16), .int (if 131072 ≤ v % 262144 then v % 262144 - 262144 else v % 262144)] := by rw [e]; exact congrArg D.tup (insL_2 h35 (.inr h33))
        rw [e2]
        refine ⟨fun g5 => ?_, fun g5 => ?_⟩
        · rw [if_pos (of_decide_eq_true g5)]
          exact ⟨sz rfl, rfl, _, _, _, _, _, _, rfl⟩
        · rw [if_neg (of_decide_eq_false g5)]
          exact ⟨sz rfl, rfl, _, _, _, _, _, _, rfl⟩
      · rw [in_gpe _ hk] at g
        have h35 := of_decide_eq_false g
        have h21 := of_decide_eq_false (aeq hk 21 (by decide) g2)
        have h33 := of_decide_eq_false (aeq hk 33 (by decide) g3)
        have h13 : fieldK v < 13 := by have := of_decide_eq_true (show decide (v / 67108864 < 14) = true from g4); omega
        have e : fieldI v = ⟨fieldK v, v / 4194304 % 16, v / 262144 % 16, v / 16384 % 16⟩ := by unfold fieldI; rw [if_neg h35, if_neg h21, if_neg h33, if_pos h13]
        have e2 : insD (fieldI v) = .tup [.str (opS (fieldK v)), .int (v / 4194304 % 16), .int (v / 262144 % 16), .int (v / 16384 % 16)] := by rw [e]; exact congrArg D.tup (insL_3 h35 (fun z => z.elim h21 h33))
        rw [e2]
        exact ⟨dv _ _ (by decide) (by decide), (by decide : (0 : Int) < 16), sz rfl, rfl, _, _, _, _, _, _, rfl⟩
      · rw [in_gpe _ hk] at g
        have h35 := of_decide_eq_false g
        have h21 := of_decide_eq_false (aeq hk 21 (by decide) g2)
        have h33 := of_decide_eq_false (aeq hk 33 (by decide) g3)
        have h13 : ¬ fieldK v < 13 := by have := of_decide_eq_false (show decide (v / 67108864 < 14) = false from g4); omega
        have e : fieldI v = ⟨fieldK v, v / 4194304 % 16, v / 262144 % 16, sgn (v % 16384) 14⟩ := by unfold fieldI; rw [if_neg h35, if_neg h21, if_neg h33, if_neg h13]
        have e2 : insD (fieldI v) = .tup [.str (opS (fieldK v)), .int (v / 4194304 % 16), .int (v / 262144 % 16), .int (if 8192 ≤ v % 16384 then v % 16384 - 16384 else v % 16384)] := by rw [e]; exact congrArg D.tup (insL_3 h35 (fun z => z.elim h21 h33))
        rw [e2]
        refine ⟨fun g5 => ?_, fun g5 => ?_⟩
        · rw [if_pos (of_decide_eq_true g5)]
          exact ⟨sz rfl, rfl, _, _, _, _, _, _, rfl⟩
        · rw [if_neg (of_decide_eq_false g5)]
          exact ⟨sz rfl, rfl, _, _, _, _, _, _, rfl⟩
    · rintro ρ w' ⟨rfl, x1, x2, x3, x4, x5, x6, rfl⟩
      refine ⟨rfl, fieldI v, rfl, ok, fun g => ?_, fun g => ?_⟩
      · rw [if_pos (of_decide_eq_true g)] at q
        exact ⟨wd, LE.new ha, q⟩
      · rw [if_neg (of_decide_eq_false g)] at q
        exact ⟨wd, LE.new ha, q⟩
  · have h1' : ¬ 1 ≤ v / 67108864 := h1
    have e : decM v = none := by unfold decM fieldsM; rw [if_neg (fun z => h1' z.1)]; rfl
    rw [e] at q
    exact le_w q

theorem sc__law_fetch : FnScope ["_law_image_here", "_law_pc", "_law_k", "_law_at", "_law_row"] ["_law_image_here", "_law_pc"] (defScope (top 65)) := ⟨rfl, rfl, rfl, by decide +kernel, rfl, by decide +kernel, by decide +kernel⟩
def fetI : Option Int → Int
  | some v => v
  | none => -1
def fLFetch : DSp := fun ds w P => ∃ I a, ds = [imgD I, .int a] ∧ I.segs.length ≤ 1000 ∧ P (.int (fetI (fetchM I a))) w
theorem ok__law_fetch (T : Tx K mg) (k__law_home : Kp P w K mg base 1 "_law_home" ["_law_image_here", "_law_address", "_law_count"] fFind) : Kp P w K mg base 2 "_law_fetch" ["_law_image_here", "_law_pc"] fLFetch := by
  have sc := sc__law_fetch
  obtain ⟨f, fd, hm, FD⟩ := T.has 54 (i := 65) (x := "_law_fetch") rfl
  refine kp_of FD hm sc (fun _ _ _ _ _ _ us hl => match us, hl with | [_, _], _ => rfl) fun cdv A outer s H E hr => ⟨_, (wss_cons (ws_set (i := 2) sc.nd (we_call (k__law_home.mono (by decide)) hr (wa_cons (we_var 0) (wa_cons (we_var 1) (wa_cons we_int wa_nil)))))
    (wss_cons (ws_if (PW.pt (ww_or (wt_lt (we_var 2) we_int) (ww_or (wt_ne hr (we_mod (we_intOf (T.fre 4 rfl) (wa_cons (we_var 1) wa_nil)) we_int) we_int) (ww_or1 (wt_not (wt_val (we_ix (we_ix (we_ix (we_var 0) we_int) (we_var 2)) we_int))))))) (wss_one (ws_ret (we_neg we_int))) wss_nil)
    (wss_cons (ws_set (i := 3) sc.nd (we_sub (we_var 1) (we_ix (we_ix (we_ix (we_var 0) we_int) (we_var 2)) we_int)))
    (wss_cons (ws_set (i := 4) sc.nd (we_ix (we_ix (we_ix (we_var 0) we_int) (we_var 2)) we_int))
    (wss_one (ws_ret (we_add (we_add (we_add (we_ix (we_var 4) (we_var 3)) (we_mul we_int (we_ix (we_var 4) (we_add (we_var 3) we_int)))) (we_mul we_int (we_ix (we_var 4) (we_add (we_var 3) we_int)))) (we_mul we_int (we_ix (we_var 4) (we_add (we_var 3) we_int)))))))))), fun ds wd Q hl hF => ?_⟩
  obtain ⟨I, a, rfl, hn, q⟩ := hF
  unfold fetchM loadOk at q
  refine ⟨rfl, I, a, 4, rfl, hn, ?_⟩
  cases eh : homeM I.segs a 4 with
  | none =>
    have q' : Q (.int (-1)) wd := by
      rw [eh] at q
      split at q <;> exact q
    exact ⟨fun _ => ⟨fun _ => le_w q', fun z => absurd (show true = false from z) (by decide)⟩, fun z => absurd (show true = false from z) (by decide)⟩
  | some k =>
    rw [eh] at q
    obtain ⟨s, hs, hin⟩ := home_some eh
    have k0 : decide (((k : Nat) : Int) < 0) = false := decide_eq_false (by omega)
    refine ⟨fun z => absurd (show decide (((k : Nat) : Int) < 0) = true from z) (by rw [k0]; decide), fun _ => ⟨(by decide : (0 : Int) < 4), fun h2 => ?_, fun h2 => ?_⟩⟩
    · have h2' : (!decide (a % 4 = 0)) = true := h2
      have h3 : ¬ a % 4 = 0 := by simpa using h2'
      rw [if_neg (fun z => z.elim (by decide) h3)] at q
      exact ⟨fun _ => le_w q, fun z => absurd (show true = false from z) (by decide)⟩
    · have h2' : (!decide (a % 4 = 0)) = false := h2
      have h3 : a % 4 = 0 := by simpa using h2'
      rw [if_pos (.inr h3)] at q
      have q' : Q (.int (fetI (if (segOf I k).ex = true then some (rdM (segOf I k).vals (a - (segOf I k).base).toNat 4) else none))) wd := q
      clear q
      rw [segOf_at hs] at q'
      obtain ⟨p0, p1, p2⟩ := inSeg_place hin (n := 4) rfl
      refine ⟨_, rfl, _, atI_map hs, _, rfl, fun h4 => ?_, fun h4 => ?_⟩
      · have h5 : (!s.ex) = true := h4
        have h6 : s.ex = false := by simpa using h5
        rw [h6] at q'
        exact le_w q'
      · have h5 : (!s.ex) = false := h4
        have h6 : s.ex = true := by simpa using h5
        rw [h6, if_pos rfl] at q'
        refine ⟨_, rfl, _, atI_map hs, _, rfl, _, rfl, _, atI_map hs, _, rfl, ?_⟩
        revert q'
        generalize (a - s.base).toNat = p at *
        intro q'
        have at4 : ∀ j : Nat, j < 4 → atI (s.vals.map D.int) (((p : Nat) : Int) + (j : Int)) = some (.int (s.vals.getD (p + j) 0)) := by
          intro j hj
          have e : ((p : Nat) : Int) + (j : Int) = ((p + j : Nat) : Int) := by omega
          have hl : p + j < s.vals.length := by omega
          rw [e, List.getD_eq_getElem?_getD, List.getElem?_eq_getElem hl]
          exact atI_intsD (List.getElem?_eq_getElem hl)
        have a0 := at4 0 (by decide)
        have a1 := at4 1 (by decide)
        have a2 := at4 2 (by decide)
        have a3 := at4 3 (by decide)
        rw [← p2] at a0 a1 a2 a3
        have a0' : atI (s.vals.map D.int) (a - s.base) = some (.int (s.vals.getD p 0)) := by
          have e : a - s.base + ((0 : Nat) : Int) = a - s.base := by omega
          rw [e] at a0
          exact a0
        refine ⟨_, a0', _, a1, .inl ⟨by decide, by decide⟩, _, a2, .inl ⟨by decide, by decide⟩, _, a3, .inl ⟨by decide, by decide⟩, le_w (qi q' ?_)⟩
        show s.vals.getD p 0 + 256 * s.vals.getD (p + 1) 0 + 65536 * s.vals.getD (p + 2) 0 + 16777216 * s.vals.getD (p + 3) 0 = 0 + s.vals.getD p 0 * 1 + s.vals.getD (p + 1) 0 * 256 + s.vals.getD (p + 2) 0 * 65536 + s.vals.getD (p + 3) 0 * 16777216
        omega
end
end Rs
set_option maxHeartbeats 4000000
/-! The law's machine: a dict and its lists. -/
namespace Rs
open PySem PySem.Spec PyProof.Rows L2
structure MF where
  r : Addr
  o : Addr
  g : Addr
  rows : List Addr
def MF.ls (F : MF) : List Addr := F.r :: F.o :: F.g :: F.rows
structure MW (w : Wd) (m : Addr) (F : MF) (s : MS) : Prop where
  dict : ∃ f, w m = some (.dct 6 f) ∧ f "r" = some (.ref F.r) ∧ f "pc" = some (.int s.pc) ∧ f "taken" = some (.int (s.taken : Nat)) ∧ f "out" = some (.ref F.o) ∧ f "end" = some (enD s.en) ∧ f "memory" = some (.ref F.g)
  r : w F.r = some (.lst (s.regs.map D.int))
  o : w F.o = some (.lst (s.out.map D.int))
  g : w F.g = some (.lst (F.rows.map D.ref))
  ml : F.rows.length = s.mem.length
  rows : ∀ (k : Nat) a row, F.rows[k]? = some a → s.mem[k]? = some row → w a = some (.lst (row.map D.int))
  nd : F.ls.Nodup
def Fr (m : Addr) (F : MF) (w w' : Wd) : Prop := ∀ a o, a ≠ m → a ∉ F.ls → w a = some o → w' a = some o
theorem Fr.refl (m : Addr) (F : MF) (w : Wd) : Fr m F w w := fun _ _ _ _ h => h
theorem Fr.trans {m : Addr} {F : MF} {w w1 w2 : Wd} (a : Fr m F w w1) (b : Fr m F w1 w2) : Fr m F w w2 := fun c o h1 h2 h => b c o h1 h2 (a c o h1 h2 h)
theorem Fr.le {m : Addr} {F : MF} {w w' : Wd} (a : LE w w') : Fr m F w w' := fun c o _ _ h => a c o h
theorem fr_dict {m : Addr} {F : MF} {w : Wd} {o : MO} : Fr m F w (updW w m o) := fun c u h1 h2 h => by rw [updW_ne h1]; exact h
theorem fr_in {m : Addr} {F : MF} {w : Wd} {b : Addr} {o : MO} (hb : b ∈ F.ls) : Fr m F w (updW w b o) := fun c u h1 h2 h => by
  rw [updW_ne (fun e => h2 (by rw [e]; exact hb))]
  exact h
theorem nd_parts {F : MF} (h : F.ls.Nodup) : (F.r ≠ F.o ∧ F.r ≠ F.g ∧ F.r ∉ F.rows) ∧ (F.o ≠ F.g ∧ F.o ∉ F.rows) ∧ F.g ∉ F.rows ∧ F.rows.Nodup := by
  unfold MF.ls at h
  rw [List.nodup_cons, List.nodup_cons, List.nodup_cons] at h
  obtain ⟨h1, h2, h3, h4⟩ := h
  refine ⟨⟨?_, ?_, ?_⟩, ⟨?_, ?_⟩, h3, h4⟩
  · exact fun e => h1 (by rw [e]; exact List.mem_cons_self)
  · exact fun e => h1 (by rw [e]; exact List.mem_cons_of_mem _ List.mem_cons_self)
  · exact fun e => h1 (List.mem_cons_of_mem _ (List.mem_cons_of_mem _ e))
  · exact fun e => h2 (by rw [e]; exact List.mem_cons_self)
  · exact fun e => h2 (List.mem_cons_of_mem _ e)
theorem nd_at {l : List Addr} (h : l.Nodup) {i j : Nat} {a b : Addr} (hi : l[i]? = some a) (hj : l[j]? = some b) (hn : i ≠ j) : a ≠ b := by
  obtain ⟨i1, i2⟩ := List.getElem?_eq_some_iff.mp hi
  obtain ⟨j1, j2⟩ := List.getElem?_eq_some_iff.mp hj
  subst i2
  subst j2
  rcases Nat.lt_or_gt_of_ne hn with h1 | h1
  · exact (List.pairwise_iff_getElem.mp h) i j i1 j1 h1
  · exact fun e => (List.pairwise_iff_getElem.mp h) j i j1 i1 h1 e.symm
section
variable {w : Wd} {m : Addr} {F : MF} {s : MS}
theorem MW.row_at (h : MW w m F s) {k : Nat} {row : List Int} (hr : s.mem[k]? = some row) : ∃ a, F.rows[k]? = some a ∧ w a = some (.lst (row.map D.int)) ∧ a ∈ F.rows := by
  have hk : k < F.rows.length := by rw [h.ml]; exact (List.getElem?_eq_some_iff.mp hr).1
  exact ⟨F.rows[k], List.getElem?_eq_getElem hk, h.rows k _ row (List.getElem?_eq_getElem hk) hr, List.getElem_mem hk⟩
theorem MW.mem_lst (h : MW w m F s) : ∀ a ∈ F.ls, ∃ ds, w a = some (.lst ds) := by
  intro a ha
  unfold MF.ls at ha
  rcases List.mem_cons.mp ha with rfl | ha
  · exact ⟨_, h.r⟩
  rcases List.mem_cons.mp ha with rfl | ha
  · exact ⟨_, h.o⟩
  rcases List.mem_cons.mp ha with rfl | ha
  · exact ⟨_, h.g⟩
  obtain ⟨k, hk, e⟩ := List.mem_iff_getElem.mp ha
  have hm : k < s.mem.length := by rw [← h.ml]; exact hk
  exact ⟨_, h.rows k a _ (by rw [List.getElem?_eq_getElem hk, e]) (List.getElem?_eq_getElem hm)⟩
theorem MW.m_ne (h : MW w m F s) {a : Addr} (ha : a ∈ F.ls) : a ≠ m := by
  obtain ⟨f, hf, _⟩ := h.dict
  obtain ⟨ds, e⟩ := h.mem_lst a ha
  intro z
  rw [z, hf] at e
  cases e
theorem MW.dct (h : MW w m F s) {s' : MS} {f' : Str → Option D} (hf : f' "r" = some (.ref F.r) ∧ f' "pc" = some (.int s'.pc) ∧ f' "taken" = some (.int (s'.taken : Nat)) ∧ f' "out" = some (.ref F.o) ∧ f' "end" = some (enD s'.en) ∧ f' "memory" = some (.ref F.g))
    (h1 : s'.regs = s.regs) (h2 : s'.out = s.out) (h3 : s'.mem = s.mem) : MW (updW w m (.dct 6 f')) m F s' where
  dict := ⟨f', updW_same, hf⟩
  r := by rw [updW_ne (h.m_ne List.mem_cons_self), h1]; exact h.r
  o := by rw [updW_ne (h.m_ne (List.mem_cons_of_mem _ List.mem_cons_self)), h2]; exact h.o
  g := by rw [updW_ne (h.m_ne (List.mem_cons_of_mem _ (List.mem_cons_of_mem _ List.mem_cons_self)))]; exact h.g
  ml := by rw [h3]; exact h.ml
  rows := fun k a row ha hr => by
    rw [updW_ne (h.m_ne (List.mem_cons_of_mem _ (List.mem_cons_of_mem _ (List.mem_cons_of_mem _ (List.mem_of_getElem? ha)))))]
    rw [h3] at hr
    exact h.rows k a row ha hr
  nd := h.nd
theorem pf_same {f : Str → Option D} {k : Str} {d : D} : putF f k d k = some d := if_pos rfl
theorem pf_ne {f : Str → Option D} {k j : Str} {d : D} (h : decide (j = k) = false) : putF f k d j = f j := if_neg (of_decide_eq_false h)
theorem MW.setpc (h : MW w m F s) : ∃ f, w m = some (.dct 6 f) ∧ (f "pc").isSome = true ∧ ∀ v, MW (updW w m (.dct 6 (putF f "pc" (.int v)))) m F { s with pc := v } := by
  obtain ⟨f, hf, f1, f2, f3, f4, f5, f6⟩ := h.dict
  exact ⟨f, hf, by rw [f2]; rfl, fun v => h.dct ⟨(pf_ne (by decide)).trans f1, pf_same, (pf_ne (by decide)).trans f3, (pf_ne (by decide)).trans f4, (pf_ne (by decide)).trans f5, (pf_ne (by decide)).trans f6⟩ rfl rfl rfl⟩
theorem MW.settaken (h : MW w m F s) : ∃ f, w m = some (.dct 6 f) ∧ (f "taken").isSome = true ∧ ∀ v : Nat, MW (updW w m (.dct 6 (putF f "taken" (.int (v : Nat))))) m F { s with taken := v } := by
  obtain ⟨f, hf, f1, f2, f3, f4, f5, f6⟩ := h.dict
  exact ⟨f, hf, by rw [f3]; rfl, fun v => h.dct ⟨(pf_ne (by decide)).trans f1, (pf_ne (by decide)).trans f2, pf_same, (pf_ne (by decide)).trans f4, (pf_ne (by decide)).trans f5, (pf_ne (by decide)).trans f6⟩ rfl rfl rfl⟩
theorem MW.seten (h : MW w m F s) : ∃ f, w m = some (.dct 6 f) ∧ (f "end").isSome = true ∧ ∀ v, MW (updW w m (.dct 6 (putF f "end" (enD v)))) m F { s with en := v } := by
  obtain ⟨f, hf, f1, f2, f3, f4, f5, f6⟩ := h.dict
  exact ⟨f, hf, by rw [f5]; rfl, fun v => h.dct ⟨(pf_ne (by decide)).trans f1, (pf_ne (by decide)).trans f2, (pf_ne (by decide)).trans f3, (pf_ne (by decide)).trans f4, pf_same, (pf_ne (by decide)).trans f6⟩ rfl rfl rfl⟩
theorem MW.dict_ne (h : MW w m F s) {a : Addr} (ha : a ∈ F.ls) {o : MO} : ∃ f, updW w a o m = some (.dct 6 f) ∧ f "r" = some (.ref F.r) ∧ f "pc" = some (.int s.pc) ∧ f "taken" = some (.int (s.taken : Nat)) ∧ f "out" = some (.ref F.o) ∧ f "end" = some (enD s.en) ∧ f "memory" = some (.ref F.g) := by
  rw [updW_ne (fun e => h.m_ne ha e.symm)]
  exact h.dict
theorem MW.setregs (h : MW w m F s) (regs : List Int) : MW (updW w F.r (.lst (regs.map D.int))) m F { s with regs := regs } where
  dict := h.dict_ne List.mem_cons_self
  r := updW_same
  o := by rw [updW_ne (nd_parts h.nd).1.1.symm]; exact h.o
  g := by rw [updW_ne (nd_parts h.nd).1.2.1.symm]; exact h.g
  ml := h.ml
  rows := fun k a row ha hr => by
    rw [updW_ne (fun e => (nd_parts h.nd).1.2.2 (by rw [← e]; exact List.mem_of_getElem? ha))]
    exact h.rows k a row ha hr
  nd := h.nd
theorem MW.setout (h : MW w m F s) (out : List Int) : MW (updW w F.o (.lst (out.map D.int))) m F { s with out := out } where
  dict := h.dict_ne (List.mem_cons_of_mem _ List.mem_cons_self)
  r := by rw [updW_ne (nd_parts h.nd).1.1]; exact h.r
  o := updW_same
  g := by rw [updW_ne (nd_parts h.nd).2.1.1.symm]; exact h.g
  ml := h.ml
  rows := fun k a row ha hr => by
    rw [updW_ne (fun e => (nd_parts h.nd).2.1.2 (by rw [← e]; exact List.mem_of_getElem? ha))]
    exact h.rows k a row ha hr
  nd := h.nd
theorem MW.setrow (h : MW w m F s) {k : Nat} {a : Addr} (hk : F.rows[k]? = some a) (row : List Int) : MW (updW w a (.lst (row.map D.int))) m F { s with mem := s.mem.set k row } where
  dict := h.dict_ne (List.mem_cons_of_mem _ (List.mem_cons_of_mem _ (List.mem_cons_of_mem _ (List.mem_of_getElem? hk))))
  r := by rw [updW_ne (fun e => (nd_parts h.nd).1.2.2 (by rw [e]; exact List.mem_of_getElem? hk))]; exact h.r
  o := by rw [updW_ne (fun e => (nd_parts h.nd).2.1.2 (by rw [e]; exact List.mem_of_getElem? hk))]; exact h.o
  g := by rw [updW_ne (fun e => (nd_parts h.nd).2.2.1 (by rw [e]; exact List.mem_of_getElem? hk))]; exact h.g
  ml := by
    show _ = (s.mem.set k row).length
    rw [List.length_set]
    exact h.ml
  rows := fun j b r hb hr => by
    have hr' : (s.mem.set k row)[j]? = some r := hr
    rw [List.getElem?_set] at hr'
    split at hr'
    · rename_i e
      subst e
      rw [hk] at hb
      cases hb
      split at hr'
      · cases hr'
        exact updW_same
      · cases hr'
    · rename_i e
      rw [updW_ne (nd_at (nd_parts h.nd).2.2.2 hb hk (fun z => e z.symm))]
      exact h.rows j b r hb hr'
  nd := h.nd
theorem MW.mono (h : MW w m F s) {w' : Wd} (l : LE w w') : MW w' m F s where
  dict := by
    obtain ⟨f, a, b⟩ := h.dict
    exact ⟨f, l _ _ a, b⟩
  r := l _ _ h.r
  o := l _ _ h.o
  g := l _ _ h.g
  ml := h.ml
  rows := fun k a row ha hr => l _ _ (h.rows k a row ha hr)
  nd := h.nd
end
theorem ixR {n m : Nat} (h : m < n) : ixN n ((m : Nat) : Int) = some m := by
  unfold ixN
  rw [if_pos (Int.natCast_nonneg m), if_pos (by omega), Int.toNat_natCast]
section
variable {P : Program} {w : World} {K : PySem.W.Frag} {mg : Str → Option Value} {base : Heap}

theorem sc__law_give : FnScope ["_law_m", "_law_number", "_law_value"] ["_law_m", "_law_number", "_law_value"] (defScope (top 67)) := ⟨rfl, rfl, rfl, by decide +kernel, rfl, by decide +kernel, by decide +kernel⟩
def fLGive : DSp := fun ds w P => ∃ m F s n v, ds = [.ref m, .int n, .int v] ∧ MW w m F s ∧ s.regs.length = 16 ∧ 0 ≤ n ∧ n < 16 ∧ ∀ w', MW w' m F { s with regs := setR s.regs n v } → Fr m F w w' → P .non w'
theorem ok__law_give (T : Tx K mg) : Kp P w K mg base 1 "_law_give" ["_law_m", "_law_number", "_law_value"] fLGive := by
  have sc := sc__law_give
  obtain ⟨f, fd, hm, FD⟩ := T.has 56 (i := 67) (x := "_law_give") rfl
  refine kp_of FD hm sc (fun _ _ _ _ _ _ us hl => match us, hl with | [_, _, _], _ => rfl) fun cdv A outer s H E hr => ⟨_, (wss_one (ws_if (wt_gt (we_var 1) we_int) (wss_one (ws_setIx (we_var 2) (we_get hr (we_var 0)) (we_var 1))) wss_nil)), fun ds wd Q hl hF => ?_⟩
  obtain ⟨m, F, s, n, v, rfl, M, hr16, n0, n1, q⟩ := hF
  refine ⟨fun h => ?_, fun h => ?_⟩
  · have h' : 0 < n := of_decide_eq_true h
    obtain ⟨f, hf, f1, _⟩ := M.dict
    obtain ⟨j, rfl⟩ := Int.eq_ofNat_of_zero_le n0
    refine ⟨_, f, _, hf, f1, _, j, M.r, ixR (by rw [List.length_map]; omega), le_w (q _ ?_ (fr_in List.mem_cons_self))⟩
    have e : (s.regs.map D.int).set j (.int v) = (setR s.regs ((j : Nat) : Int) v).map D.int := by
      unfold setR
      rw [if_neg (by omega), Int.toNat_natCast, List.map_set]
    rw [e]
    exact M.setregs _
  · have h' : ¬ 0 < n := of_decide_eq_false h
    have e : n = 0 := by omega
    subst e
    exact le_w (q wd M (Fr.refl _ _ _))

theorem sc__law_begin : FnScope ["_law_image_here", "_law_m", "_law_row"] ["_law_image_here"] (defScope (top 66)) := ⟨rfl, rfl, rfl, by decide +kernel, rfl, by decide +kernel, by decide +kernel⟩
def fLBegin : DSp := fun ds w P => ∃ I, ds = [imgD I] ∧ I.segs.length ≤ 1000 ∧ ∀ m F w', MW w' m F (startM I) → LE w w' → (∀ a, a = m ∨ a ∈ F.ls → w a = none) → P (.ref m) w'
theorem ok__law_begin (T : Tx K mg) : Kp P w K mg base 1 "_law_begin" ["_law_image_here"] fLBegin := by
  have sc := sc__law_begin
  obtain ⟨f, fd, hm, FD⟩ := T.has 55 (i := 66) (x := "_law_begin") rfl
  refine kp_of FD hm sc (fun _ _ _ _ _ _ us hl => match us, hl with | [_], _ => rfl) fun cdv A outer s H E hr => ⟨_, (wss_cons (ws_set (i := 1) sc.nd (we_disp (keys := ["r", "pc", "taken", "out", "end"]) (wp_cons (we_mul (we_lst (wa_cons we_int wa_nil)) we_int) (wp_cons (we_ix (we_var 0) we_int) (wp_cons we_int (wp_cons (we_lst wa_nil) (wp_cons (we_tup (wa_cons we_str wa_nil)) wp_nil))))) rfl))
    (wss_cons (ws_put hr (we_lcT (by rfl) sc.nd (we_ix (we_var 0) we_int) (blkOk_by (N := ["_law_image_here", "_law_m", "_law_row"]) (sc := defScope (top 66)) (own := [("_law_row", 2)]) (by decide +kernel)) (fun _ _ _ _ _ => pg_name (i := 2) sc.nd rfl (.inl rfl)) (fun _ _ _ _ _ => (we_listOf (T.fre 3 rfl) (wa_cons (we_ix (we_var 2) we_int) wa_nil)))) (we_var 1))
    (wss_one (ws_ret (we_var 1))))), fun ds wd Q hl hF => ?_⟩
  obtain ⟨I, rfl, hn, q⟩ := hF
  have big : (16 : Int) < 2 ^ 63 := by decide
  refine fun p hp => ⟨sz rfl, fun a ha => ⟨_, updW_same, by decide, big, sz rfl, fun r hr => ⟨_, rfl, sz rfl, fun o ho => ⟨sz rfl, ⟨_, ((LE.new ha).trans ((LE.new hr).trans (LE.new ho))) _ _ updW_same⟩, rfl, by decide, by decide, ?_⟩⟩⟩⟩
  have l3 := (LE.new hp (o := .dct 0 fun _ => none)).trans ((LE.new ha (o := .lst [.int 0])).trans ((LE.new hr (o := .lst (List.replicate (16 : Int).toNat [D.int 0]).flatten)).trans (LE.new ho (o := .lst []))))
  have fresh_ne : ∀ {u : Wd} {c b : Addr} {x : MO}, updW u b x c = none → c ≠ b ∧ u c = none := by
    intro u c b x h
    have hn : c ≠ b := by
      intro e
      rw [e, updW_same] at h
      cases h
    rw [updW_ne hn] at h
    exact ⟨hn, h⟩
  obtain ⟨a_p, ha0⟩ := fresh_ne ha
  obtain ⟨r_a, hr1⟩ := fresh_ne hr
  obtain ⟨r_p, hr0⟩ := fresh_ne hr1
  obtain ⟨o_r, ho2⟩ := fresh_ne ho
  obtain ⟨o_a, ho1⟩ := fresh_ne ho2
  obtain ⟨o_p, ho0⟩ := fresh_ne ho1
  have l3 := (LE.new hp (o := .dct 0 fun _ => none)).trans ((LE.new ha (o := .lst [.int 0])).trans ((LE.new hr (o := .lst (List.replicate (16 : Int).toNat [D.int 0]).flatten)).trans (LE.new ho (o := .lst []))))
  refine ⟨_, rfl, fun g hg => ?_⟩
  obtain ⟨g_p, hg3⟩ := fresh_ne hg
  obtain ⟨g_o, hg2⟩ := fresh_ne hg3
  obtain ⟨g_r, hg1⟩ := fresh_ne hg2
  obtain ⟨g_a, hg0⟩ := fresh_ne hg1
  obtain ⟨_, hgw⟩ := fresh_ne hg0
  refine ⟨fun k w' => ∃ rows : List Addr, rows.length = k ∧ w' g = some (.lst (rows.map D.ref)) ∧ (∀ (j : Nat) b s, rows[j]? = some b → I.segs[j]? = some s → w' b = some (.lst (s.vals.map D.int))) ∧ rows.Nodup ∧ (∀ b ∈ rows, wd b = none ∧ b ≠ p ∧ b ≠ r ∧ b ≠ o ∧ b ≠ g) ∧ LE wd w' ∧
    w' p = some (.dct 5 (mkF ["r", "pc", "taken", "out", "end"] [.ref r, .int I.entry, .int 0, .ref o, .tup [.str "none"]])) ∧ w' r = some (.lst ((List.replicate 16 (0 : Int)).map D.int)) ∧ w' o = some (.lst []), ?_, ?_, ?_⟩
  · refine ⟨[], rfl, updW_same, (by intro j b s hb; cases hb), List.nodup_nil, (by intro b hb; cases hb), ?_, ?_, ?_, ?_⟩
    · intro c u hc
      have c1 : c ≠ g := by intro e; rw [e, hgw] at hc; cases hc
      have c2 : c ≠ p := by intro e; rw [e, hp] at hc; cases hc
      rw [updW_ne c1, updW_ne c2]
      exact l3 c u hc
    · rw [updW_ne (Ne.symm g_p), updW_same]
      rfl
    · rw [updW_ne (Ne.symm g_r), updW_ne r_p, updW_ne (Ne.symm o_r), updW_same]
      rfl
    · rw [updW_ne (Ne.symm g_o), updW_ne o_p, updW_same]
  · rintro k x w' hx ⟨rows, rfl, e1, e2, e3, e4, e5, e6, e7, e8⟩
    rw [List.getElem?_map] at hx
    cases hs : I.segs[rows.length]? with
    | none => rw [hs] at hx; cases hx
    | some s =>
      rw [hs] at hx
      cases hx
      refine ⟨_, rfl, fun b hb => ⟨rows.map D.ref, ?_, ?_, ?_⟩⟩
      · have bg : g ≠ b := by intro e; rw [← e, e1] at hb; cases hb
        rw [updW_ne bg]
        exact e1
      · rw [List.length_map]
        have : rows.length < I.segs.length := (List.getElem?_eq_some_iff.mp hs).1
        exact Nat.lt_of_lt_of_le this (sz2 (by omega))
      · have bg : b ≠ g := by intro e; rw [e, e1] at hb; cases hb
        have bp : b ≠ p := by intro e; rw [e, e6] at hb; cases hb
        have br : b ≠ r := by intro e; rw [e, e7] at hb; cases hb
        have bo : b ≠ o := by intro e; rw [e, e8] at hb; cases hb
        have bw : wd b = none := by
          cases e : wd b with
          | none => rfl
          | some u => rw [e5 b u e] at hb; cases hb
        have bn : b ∉ rows := by
          intro hm
          obtain ⟨j, hj, e⟩ := List.mem_iff_getElem.mp hm
          have hjs : j < I.segs.length := Nat.lt_trans hj (List.getElem?_eq_some_iff.mp hs).1
          rw [e2 j b _ (by rw [List.getElem?_eq_getElem hj, e]) (List.getElem?_eq_getElem hjs)] at hb
          cases hb
        refine ⟨rows ++ [b], by rw [List.length_append]; rfl, ?_, ?_, ?_, ?_, ?_, ?_, ?_, ?_⟩
        · rw [updW_same, List.map_append]
          rfl
        · intro j c u hc hu
          have cg : c ≠ g := by
            have hm := List.mem_of_getElem? hc
            rcases List.mem_append.mp hm with h | h
            · exact (e4 c h).2.2.2.2
            · rw [List.mem_singleton.mp h]; exact bg
          rw [updW_ne cg]
          by_cases hj : j < rows.length
          · rw [List.getElem?_append_left hj] at hc
            rw [updW_ne (fun e => bn (by rw [← e]; exact List.mem_of_getElem? hc))]
            exact e2 j c u hc hu
          · have hlt := (List.getElem?_eq_some_iff.mp hc).1
            rw [List.length_append, List.length_singleton] at hlt
            have ej : j = rows.length := by omega
            subst ej
            rw [List.getElem?_append_right (Nat.le_refl _), Nat.sub_self] at hc
            cases hc
            rw [hs] at hu
            cases hu
            exact updW_same
        · rw [List.nodup_append]
          exact ⟨e3, by simp, fun c hc d hd => by
            rw [List.mem_singleton.mp hd]
            exact fun e => bn (by rw [← e]; exact hc)⟩
        · intro c hc
          rcases List.mem_append.mp hc with h | h
          · exact e4 c h
          · rw [List.mem_singleton.mp h]
            exact ⟨bw, bp, br, bo, bg⟩
        · intro c u hc
          have c1 : c ≠ g := by intro e; rw [e, hgw] at hc; cases hc
          have c2 : c ≠ b := by intro e; rw [e, bw] at hc; cases hc
          rw [updW_ne c1, updW_ne c2]
          exact e5 c u hc
        · rw [updW_ne (Ne.symm g_p), updW_ne (Ne.symm bp)]
          exact e6
        · rw [updW_ne (Ne.symm g_r), updW_ne (Ne.symm br)]
          exact e7
        · rw [updW_ne (Ne.symm g_o), updW_ne (Ne.symm bo)]
          exact e8
  · rintro w' ⟨rows, hl, e1, e2, e3, e4, e5, e6, e7, e8⟩
    rw [List.length_map] at hl
    refine ⟨5, _, 6, e6, by decide, .inr rfl, le_w (q p ⟨r, o, g, rows⟩ _ ?_ ?_ ?_)⟩
    · refine ⟨⟨_, updW_same, (pf_ne (by decide)).trans rfl, (pf_ne (by decide)).trans rfl, (pf_ne (by decide)).trans rfl, (pf_ne (by decide)).trans rfl, (pf_ne (by decide)).trans rfl, pf_same⟩, ?_, ?_, ?_, ?_, ?_, ?_⟩
      · rw [updW_ne r_p]
        exact e7
      · rw [updW_ne o_p]
        exact e8
      · rw [updW_ne g_p]
        exact e1
      · show rows.length = (I.segs.map _).length
        rw [List.length_map]
        exact hl
      · intro k b row hb hrow
        have hrow' : (I.segs.map (·.vals))[k]? = some row := hrow
        rw [List.getElem?_map] at hrow'
        cases hs : I.segs[k]? with
        | none => rw [hs] at hrow'; cases hrow'
        | some s =>
          rw [hs] at hrow'
          have h2 : s.vals = row := Option.some.inj hrow'
          have hb' : rows[k]? = some b := hb
          rw [updW_ne (e4 b (List.mem_of_getElem? hb')).2.1, ← h2]
          exact e2 k b s hb' hs
      · show (r :: o :: g :: rows).Nodup
        rw [List.nodup_cons, List.nodup_cons, List.nodup_cons]
        refine ⟨?_, ?_, ?_, e3⟩
        · intro hm
          rcases List.mem_cons.mp hm with h | hm
          · exact o_r h.symm
          rcases List.mem_cons.mp hm with h | hm
          · exact g_r h.symm
          exact (e4 r hm).2.2.1 rfl
        · intro hm
          rcases List.mem_cons.mp hm with h | hm
          · exact g_o h.symm
          exact (e4 o hm).2.2.2.1 rfl
        · intro hm
          exact (e4 g hm).2.2.2.2 rfl
    · intro c u hc
      have c2 : c ≠ p := by intro e; rw [e, hp] at hc; cases hc
      rw [updW_ne c2]
      exact e5 c u hc
    · rintro c (rfl | hm)
      · exact hp
      · have hm' : c ∈ r :: o :: g :: rows := hm
        rcases List.mem_cons.mp hm' with rfl | hm'
        · exact hr0
        rcases List.mem_cons.mp hm' with rfl | hm'
        · exact ho0
        rcases List.mem_cons.mp hm' with rfl | hm'
        · exact hgw
        exact (e4 c hm').1
end
end Rs
set_option maxHeartbeats 4000000
/-! The law's machine: loads and stores. -/
namespace Rs
open PySem PySem.Spec PyProof.Rows L2
theorem in_ss : ∀ k, k < 38 → inS (opS k) [.str "sw", .str "sb"] = decide (k = 25 ∨ k = 26) := by decide +kernel
theorem loadOk_some {I : Img} {a c : Int} : (loadOk I a c).isSome = (decide (0 ≤ optI (homeM I.segs a c)) && decide (c = 1 ∨ a % 4 = 0)) := by
  unfold loadOk
  rw [optI_nn]
  by_cases h : c = 1 ∨ a % 4 = 0
  · rw [if_pos h, decide_eq_true h, Bool.and_true]
  · rw [if_neg h, decide_eq_false h, Bool.and_false]
    rfl
theorem wrM_zero {row : List Int} {p : Nat} {v : Int} : wrM row p 0 v = row := by
  unfold wrM
  show row.take p ++ [] ++ row.drop p = row
  rw [List.append_nil, List.take_append_drop]
theorem wrM_succ {row : List Int} {p j : Nat} {v : Int} (h : p + j < row.length) : (wrM row p j v).set (p + j) (v / 2 ^ (8 * j) % 256) = wrM row p (j + 1) v := by
  unfold wrM
  have e : bytesM v (j + 1) = bytesM v j ++ [v / 2 ^ (8 * j) % 256] := by
    unfold bytesM
    rw [List.range_succ, List.map_append]
    rfl
  have l : (row.take p ++ bytesM v j).length = p + j := by
    rw [List.length_append, List.length_take, bytesM_len]
    omega
  have d : row.drop (p + j) = row[p + j] :: row.drop (p + j + 1) := (List.drop_eq_getElem_cons h)
  rw [List.set_append_right _ _ (by rw [l]; exact Nat.le_refl _), l, Nat.sub_self, d, List.set_cons_zero, e]
  simp only [List.append_assoc, List.cons_append, List.nil_append]
  rfl
section
variable {P : Program} {w : World} {K : PySem.W.Frag} {mg : Str → Option Value} {base : Heap}

theorem sc__law_touch : FnScope ["_law_image_here", "_law_m", "_law_row", "_law_old", "_law_size", "_law_address", "_law_k", "_law_allowed", "_law_at", "_law_value", "_law_j", "_law_rest"] ["_law_image_here", "_law_m", "_law_row", "_law_old"] (defScope (top 68)) := ⟨rfl, rfl, rfl, by decide +kernel, rfl, by decide +kernel, by decide +kernel⟩
def fLTouch : DSp := fun ds w P => ∃ I data m F s i old, ds = [imgD I, .ref m, insD i, .int old] ∧ ImgOk I ∧ MsOk I data s ∧ InsOk i ∧ 22 ≤ i.k ∧ i.k ≤ 26 ∧ MW w m F s ∧
  ∀ w', Fr m F w w' → (match plainM I data s i with | .inl t => MW w' m F { s with en := .trap t old } → P (.bl false) w' | .inr s' => MW w' m F s' → P (.bl true) w')
theorem ok__law_touch (T : Tx K mg) (k__law_home : Kp P w K mg base 1 "_law_home" ["_law_image_here", "_law_address", "_law_count"] fFind) (k__law_give : Kp P w K mg base 1 "_law_give" ["_law_m", "_law_number", "_law_value"] fLGive) : Kp P w K mg base 2 "_law_touch" ["_law_image_here", "_law_m", "_law_row", "_law_old"] fLTouch := by
  have sc := sc__law_touch
  obtain ⟨f, fd, hm, FD⟩ := T.has 57 (i := 68) (x := "_law_touch") rfl
  refine kp_of FD hm sc (fun _ _ _ _ _ _ us hl => match us, hl with | [_, _, _, _], _ => rfl) fun cdv A outer s H E hr => ⟨_, (wss_cut (ws_set (i := 4) sc.nd (we_if (wt_inL (we_ix (we_var 2) we_int) (wa_cons we_str (wa_cons we_str wa_nil))) we_int we_int))
    (wss_cut (ws_set (i := 5) sc.nd (we_mod (we_intOf (T.fre 4 rfl) (wa_cons (we_add (we_ix (we_get hr (we_var 1)) (we_ix (we_var 2) we_int)) (we_ix (we_var 2) we_int)) wa_nil)) (we_pow we_int we_int)))
    (wss_cons (ws_set (i := 6) sc.nd (we_call (k__law_home.mono (by decide)) hr (wa_cons (we_var 0) (wa_cons (we_var 5) (wa_cons (we_var 4) wa_nil)))))
    (wss_cut (ws_set (i := 7) sc.nd (we_and (we_ge (we_var 6) we_int) (we_one (we_or (we_eq hr (we_var 4) we_int) (we_one (we_eq hr (we_mod (we_intOf (T.fre 4 rfl) (wa_cons (we_var 5) wa_nil)) we_int) we_int))))))
    (wss_cons (ws_if (PW.pt (ww_and (wt_inL (we_ix (we_var 2) we_int) (wa_cons we_str (wa_cons we_str wa_nil))) (ww_and1 (PW.pt (ww_or (wt_not (wt_val (we_var 7))) (ww_or1 (wt_not (wt_val (we_ix (we_ix (we_ix (we_var 0) we_int) (we_var 6)) we_int))))))))) (wss_cons (ws_put hr (we_tup (wa_cons we_str (wa_cons we_str (wa_cons (we_var 3) wa_nil)))) (we_var 1))
    (wss_one (ws_ret we_bl))) wss_nil)
    (wss_cons (ws_if (wt_not (wt_val (we_var 7))) (wss_cons (ws_put hr (we_tup (wa_cons we_str (wa_cons we_str (wa_cons (we_var 3) wa_nil)))) (we_var 1))
    (wss_one (ws_ret we_bl))) wss_nil)
    (wss_cons (ws_set (i := 8) sc.nd (we_sub (we_var 5) (we_ix (we_ix (we_ix (we_var 0) we_int) (we_var 6)) we_int)))
    (wss_cons (ws_if (wt_inL (we_ix (we_var 2) we_int) (wa_cons we_str (wa_cons we_str wa_nil))) (wss_cons (ws_set (i := 11) sc.nd (we_ix (we_get hr (we_var 1)) (we_ix (we_var 2) we_int)))
    (wss_cons (ws_forR (i := 10) PassesOwn.never (by rfl) sc.nd (T.fre 1 rfl) (we_var 4) (wss_cons (ws_setIx (we_mod (we_intOf (T.fre 4 rfl) (wa_cons (we_var 11) wa_nil)) we_int) (we_ix (we_get hr (we_var 1)) (we_var 6)) (we_add (we_var 8) (we_var 10)))
    (wss_one (ws_set (i := 11) sc.nd (we_fdiv (we_var 11) we_int)))))
    (wss_one (ws_ret we_bl)))) wss_nil)
    (wss_cons (ws_set (i := 9) sc.nd we_int)
    (wss_cons (ws_forR (i := 10) PassesOwn.never (by rfl) sc.nd (T.fre 1 rfl) (we_var 4) (wss_one (ws_set (i := 9) sc.nd (we_add (we_var 9) (we_mul (we_ix (we_ix (we_get hr (we_var 1)) (we_var 6)) (we_add (we_var 8) (we_var 10))) (we_shl we_int (we_mul we_int (we_var 10))))))))
    (wss_cut (ws_if (PW.pt (ww_and (wt_eq hr (we_ix (we_var 2) we_int) we_str) (ww_and1 (wt_gt (we_var 9) we_int)))) (wss_one (ws_set (i := 9) sc.nd (we_sub (we_add (we_var 9) (we_pow we_int we_int)) we_int))) wss_nil)
    (wss_cons (ws_expr (we_call (k__law_give.mono (by decide)) hr (wa_cons (we_var 1) (wa_cons (we_ix (we_var 2) we_int) (wa_cons (we_var 9) wa_nil)))))
    (wss_one (ws_ret we_bl)))))))))))))), fun ds wd Q hl hF => ?_⟩
  obtain ⟨I, data, m, F, s, i, old, rfl, IO, M, O, hk1, hk2, W, q⟩ := hF
  have hk := O.hk
  have hb := O.br (by omega)
  have rb := reg_at M hb.1 hb.2
  have ra := reg_at M O.a0 O.a1
  rw [show insD i = .tup [.str (opS i.k), .int i.a, .int i.b, .int i.c] from congrArg D.tup (insL_3 (by omega) (by omega))]
  refine ⟨fun ρ w' => w' = wd ∧ ρ = [some (imgD I), some (.ref m), some (.tup [.str (opS i.k), .int i.a, .int i.b, .int i.c]), some (.int old), some (.int (sizeM i.k : Nat)), none, none, none, none, none, none, none], ⟨_, rfl, sz rfl, rfl, fun h => ?_, fun h => ?_⟩, ?_⟩
  · rw [in_ws _ hk] at h
    unfold sizeM
    rw [if_pos (of_decide_eq_true h)]
    exact ⟨rfl, rfl⟩
  · rw [in_ws _ hk] at h
    unfold sizeM
    rw [if_neg (of_decide_eq_false h)]
    exact ⟨rfl, rfl⟩
  · rintro ρ w' ⟨rfl, rfl⟩
    obtain ⟨f, hf, f1, _, _, _, _, f6⟩ := W.dict
    have q32 : (2 : Int) ^ (32 : Int).toNat = 4294967296 := rfl
    have z32 : (0 : Int) < 2 ^ (32 : Int).toNat := by rw [q32]; decide
    unfold plainM at q
    revert q
    generalize hA : (reg s i.b + i.c) % 4294967296 = A
    intro q
    have hA' : (reg s i.b + i.c) % 2 ^ (32 : Int).toNat = A := by rw [q32]; exact hA
    refine ⟨fun ρ w1 => w1 = w' ∧ ρ = [some (imgD I), some (.ref m), some (.tup [.str (opS i.k), .int i.a, .int i.b, .int i.c]), some (.int old), some (.int (sizeM i.k : Nat)), some (.int A), none, none, none, none, none, none], ⟨6, f, _, hf, f1, _, rfl, _, _, W.r, rb, _, rfl, cpow (by decide) (by decide) (by decide) (by decide), z32, rfl, by rw [← hA']; rfl⟩, ?_⟩
    rintro ρ w1 ⟨rfl, rfl⟩
    refine ⟨rfl, I, A, _, rfl, IO.ns, ?_⟩
    refine ⟨fun ρ w' => w' = w1 ∧ ρ = [some (imgD I), some (.ref m), some (.tup [.str (opS i.k), .int i.a, .int i.b, .int i.c]), some (.int old), some (.int (sizeM i.k : Nat)), some (.int A), some (.int (optI (homeM I.segs A (sizeM i.k)))), some (.bl (loadOk I A (sizeM i.k)).isSome), none, none, none, none], ?_, ?_⟩
    · have fin : ∀ b, b = (loadOk I A (sizeM i.k)).isSome → w1 = w1 ∧ [some (imgD I), some (.ref m), some (.tup [.str (opS i.k), .int i.a, .int i.b, .int i.c]), some (.int old), some (.int (sizeM i.k : Nat)), some (.int A), some (.int (optI (homeM I.segs A (sizeM i.k)))), some (D.bl b), none, none, none, none] = [some (imgD I), some (.ref m), some (.tup [.str (opS i.k), .int i.a, .int i.b, .int i.c]), some (.int old), some (.int (sizeM i.k : Nat)), some (.int A), some (.int (optI (homeM I.segs A (sizeM i.k)))), some (D.bl (loadOk I A (sizeM i.k)).isSome), none, none, none, none] := by
        rintro b rfl
        exact ⟨rfl, rfl⟩
      refine ⟨fun g => ⟨fun g2 => ?_, fun g2 => ⟨(by decide : (0 : Int) < 4), ?_⟩⟩, fun g => ?_⟩
      · refine fin _ ?_
        rw [loadOk_some, show decide (0 ≤ optI (homeM I.segs A ↑(sizeM i.k))) = true from g, decide_eq_true (.inl (of_decide_eq_true g2))]
        rfl
      · refine fin _ ?_
        have e : decide (((sizeM i.k : Nat) : Int) = 1 ∨ A % 4 = 0) = decide (A % 4 = 0) := decide_eq_decide.mpr ⟨fun z => z.elim (fun z => absurd z (of_decide_eq_false g2)) id, .inr⟩
        rw [loadOk_some, show decide (0 ≤ optI (homeM I.segs A ↑(sizeM i.k))) = true from g, e]
        rfl
      · refine fin _ ?_
        rw [loadOk_some, show decide (0 ≤ optI (homeM I.segs A ↑(sizeM i.k))) = false from g]
        rfl
    · rintro ρ w' ⟨rfl, rfl⟩
      have hd : ∀ t, MW w' m F s → ∃ f, w' m = some (.dct 6 f) ∧ (f "end").isSome = true ∧ MW (updW w' m (.dct 6 (putF f "end" (.tup [.str "trap", .str (Tw.s t), .int old])))) m F { s with en := .trap t old } := by
        intro t W
        obtain ⟨f, a, b, c⟩ := W.seten
        exact ⟨f, a, b, c (.trap t old)⟩
      have isst : ∀ b, inS (opS i.k) [.str "sw", .str "sb"] = b → decide (i.k = 25 ∨ i.k = 26) = b := fun b h => by rw [← in_ss _ hk]; exact h
      have dv : ∀ i : Int, CDivW i 256 := fun i => wide_div (b := 33) (by decide) (by decide) (by decide) (by decide)
      have sz4 : sizeM i.k ≤ 4 := by unfold sizeM; split <;> omega
      refine ⟨_, rfl, sz rfl, rfl, fun g => ?_, fun g => ?_⟩
      · have g' := of_decide_eq_true (isst _ g)
        rw [if_neg (by omega), if_pos g'] at q
        unfold storeOk at q
        cases eo : loadOk I A (sizeM i.k) with
        | none =>
          rw [eo] at q
          obtain ⟨f, h1, h2, h3⟩ := hd .store W
          exact ⟨fun _ => ⟨fun _ => ⟨sz rfl, 6, f, 6, h1, by decide, .inl ⟨rfl, h2⟩, le_w (q _ fr_dict h3)⟩, fun z => absurd (show true = false from z) (by decide)⟩, fun z => absurd (show true = false from z) (by decide)⟩
        | some k =>
          rw [eo] at q
          have eh := loadOk_home eo
          obtain ⟨u, hu, hin⟩ := home_some eh
          obtain ⟨row, g1, g2, g3, g4, g5⟩ := row_at M eh
          obtain ⟨p0, p1, p2⟩ := inSeg_place hin (n := sizeM i.k) rfl
          have so : segOf I k = u := segOf_at hu
          rw [so] at g3
          rw [eh]
          have q' : ∀ w2, Fr m F w' w2 → (match (match (if u.wr = true then some k else none) with
            | some k => Sum.inr { s with mem := s.mem.set k (wrM row (A - u.base).toNat (sizeM i.k) (reg s i.a)) }
            | none => Sum.inl Tw.store : Tw ⊕ MS) with | .inl t => MW w2 m F { s with en := .trap t old } → Q (.bl false) w2 | .inr s' => MW w2 m F s' → Q (.bl true) w2) := by
            intro w2 hfr
            have z := q w2 hfr
            have z2 : (match (match (if (segOf I k).wr = true then some k else none) with
            | some k => Sum.inr { s with mem := s.mem.set k (wrM (s.mem.getD k []) (A - (segOf I k).base).toNat (sizeM i.k) (reg s i.a)) }
            | none => Sum.inl Tw.store : Tw ⊕ MS) with | .inl t => MW w2 m F { s with en := .trap t old } → Q (.bl false) w2 | .inr s' => MW w2 m F s' → Q (.bl true) w2) := z
            rw [so] at z2
            cases hwr : u.wr with
            | false => rw [hwr] at z2; exact z2
            | true =>
              rw [hwr, if_pos rfl] at z2
              rw [if_pos rfl]
              have z3 : MW w2 m F { s with mem := s.mem.set k (wrM (s.mem.getD k []) (A - (segOf I k).base).toNat (sizeM i.k) (reg s i.a)) } → Q (.bl true) w2 := z2
              rw [g2, so] at z3
              exact z3
          clear q
          refine ⟨fun z => absurd (show false = true from z) (by decide), fun _ => ⟨_, rfl, _, atI_map hu, _, rfl, fun h2 => ?_, fun h2 => ?_⟩⟩
          · have h2' : (!u.wr) = true := h2
            have h3 : u.wr = false := by simpa using h2'
            obtain ⟨f, h1, h2, h3'⟩ := hd .store W
            rw [h3] at q'
            exact ⟨sz rfl, 6, f, 6, h1, by decide, .inl ⟨rfl, h2⟩, le_w (q' _ fr_dict h3')⟩
          · have h2' : (!u.wr) = false := h2
            have h3 : u.wr = true := by simpa using h2'
            rw [h3, if_pos rfl] at q'
            refine ⟨fun z => absurd (show false = true from z) (by decide), fun _ => ⟨_, rfl, _, atI_map hu, _, rfl, _, rfl, sz rfl, rfl, fun _ => ?_, fun h => absurd ((isst _ h).symm.trans (isst _ g)) (by decide)⟩⟩
            have hrow : (A - u.base).toNat + sizeM i.k ≤ row.length := by rw [g3]; exact p1
            refine ⟨6, f, _, hf, f1, _, rfl, _, _, W.r, ra, by omega, by omega, fun j ρ w2 => ∃ x, ρ = [some (imgD I), some (.ref m), some (.tup [.str (opS i.k), .int i.a, .int i.b, .int i.c]), some (.int old), some (.int (sizeM i.k : Nat)), some (.int A), some (.int (k : Nat)), some (.bl true), some (.int (A - u.base)), none, x, some (.int (reg s i.a / 2 ^ (8 * j)))] ∧
              MW w2 m F { s with mem := s.mem.set k (wrM row (A - u.base).toNat j (reg s i.a)) } ∧ Fr m F w' w2, ⟨none, ?_, ?_, Fr.refl _ _ _⟩, ?_, ?_⟩
            · rw [Nat.mul_zero, Int.pow_zero, Int.ediv_one]
              rfl
            · rw [wrM_zero]
              have e : s.mem.set k row = s.mem := by
                obtain ⟨hk1, hk2⟩ := List.getElem?_eq_some_iff.mp g1
                rw [← hk2]
                exact List.set_getElem_self hk1
              rw [e]
              exact W
            · rintro j ρ w2 hj ⟨x, rfl, W2, hfr⟩
              rw [Int.toNat_natCast] at hj
              have hmem : (s.mem.set k (wrM row (A - u.base).toNat j (reg s i.a)))[k]? = some (wrM row (A - u.base).toNat j (reg s i.a)) := by
                rw [List.getElem?_set_self (List.getElem?_eq_some_iff.mp g1).1]
              obtain ⟨b, hb1, hb2, hb3⟩ := W2.row_at hmem
              obtain ⟨f', hf', _, _, _, _, _, f6'⟩ := W2.dict
              have hlen : (wrM row (A - u.base).toNat j (reg s i.a)).length = row.length := wrM_len (by omega)
              have hix : ixN ((wrM row (A - u.base).toNat j (reg s i.a)).map D.int).length (A - u.base + (j : Nat)) = some ((A - u.base).toNat + j) := by
                have e : A - u.base + ((j : Nat) : Int) = (((A - u.base).toNat + j : Nat) : Int) := by omega
                rw [e]
                exact ixR (by rw [List.length_map, hlen]; omega)
              refine ⟨(by decide : (0 : Int) < 256), 6, f', _, hf', f6', _, _, W2.g, atI_map hb1, _, _, hb2, hix, dv _, ?_⟩
              refine ⟨some (.int (j : Nat)), ?_, ?_, hfr.trans (fr_in (List.mem_cons_of_mem _ (List.mem_cons_of_mem _ (List.mem_cons_of_mem _ hb3))))⟩
              · have e : reg s i.a / 2 ^ (8 * j) / 256 = reg s i.a / 2 ^ (8 * (j + 1)) := by
                  rw [pow8, Int.ediv_ediv_of_nonneg (Int.le_of_lt (pow8_pos j))]
                rw [← e]
                rfl
              · have e : ((wrM row (A - u.base).toNat j (reg s i.a)).map D.int).set ((A - u.base).toNat + j) (.int (reg s i.a / 2 ^ (8 * j) % 256)) = (wrM row (A - u.base).toNat (j + 1) (reg s i.a)).map D.int := by
                  rw [← List.map_set, wrM_succ (by omega)]
                have z := W2.setrow hb1 (wrM row (A - u.base).toNat (j + 1) (reg s i.a))
                rw [← e] at z
                have e2 : (s.mem.set k (wrM row (A - u.base).toNat j (reg s i.a))).set k (wrM row (A - u.base).toNat (j + 1) (reg s i.a)) = s.mem.set k (wrM row (A - u.base).toNat (j + 1) (reg s i.a)) := List.set_set _
                have z2 : MW _ m F { s with mem := (s.mem.set k (wrM row (A - u.base).toNat j (reg s i.a))).set k (wrM row (A - u.base).toNat (j + 1) (reg s i.a)) } := z
                rw [e2] at z2
                exact z2
            · rintro ρ w2 ⟨x, rfl, W2, hfr⟩
              rw [Int.toNat_natCast] at W2
              exact le_w (q' _ hfr W2)
      · have g' := of_decide_eq_false (isst _ g)
        rw [if_pos (by omega)] at q
        cases eo : loadOk I A (sizeM i.k) with
        | none =>
          rw [eo] at q
          obtain ⟨f, h1, h2, h3⟩ := hd .load W
          exact ⟨fun z => absurd (show false = true from z) (by decide), fun _ => ⟨fun _ => ⟨sz rfl, 6, f, 6, h1, by decide, .inl ⟨rfl, h2⟩, le_w (q _ fr_dict h3)⟩, fun z => absurd (show true = false from z) (by decide)⟩⟩
        | some k =>
          rw [eo] at q
          have eh := loadOk_home eo
          obtain ⟨u, hu, hin⟩ := home_some eh
          obtain ⟨row, g1, g2, g3, g4, g5⟩ := row_at M eh
          obtain ⟨p0, p1, p2⟩ := inSeg_place hin (n := sizeM i.k) rfl
          have so : segOf I k = u := segOf_at hu
          rw [so] at g3
          rw [eh]
          have q' : ∀ w2, Fr m F w' w2 → MW w2 m F { s with regs := setR s.regs i.a (loadV i.k (rdM row (A - u.base).toNat (sizeM i.k))) } → Q (.bl true) w2 := by
            intro w2 hfr
            have z : MW w2 m F { s with regs := setR s.regs i.a (loadV i.k (rdM (s.mem.getD k []) (A - (segOf I k).base).toNat (sizeM i.k))) } → Q (.bl true) w2 := q w2 hfr
            rw [so, g2] at z
            exact z
          clear q
          refine ⟨fun z => absurd (show false = true from z) (by decide), fun _ => ⟨fun z => absurd (show false = true from z) (by decide), fun _ => ⟨_, rfl, _, atI_map hu, _, rfl, _, rfl, sz rfl, rfl, fun h => absurd ((isst _ h).symm.trans (isst _ g)) (by decide), fun _ => ?_⟩⟩⟩
          have hrow : (A - u.base).toNat + sizeM i.k ≤ row.length := by rw [g3]; exact p1
          obtain ⟨b, hb1, hb2, hb3⟩ := W.row_at g1
          refine ⟨by omega, by omega, fun j ρ w2 => ∃ x, w2 = w' ∧ ρ = [some (imgD I), some (.ref m), some (.tup [.str (opS i.k), .int i.a, .int i.b, .int i.c]), some (.int old), some (.int (sizeM i.k : Nat)), some (.int A), some (.int (k : Nat)), some (.bl true), some (.int (A - u.base)), some (.int (rdM row (A - u.base).toNat j)), x, none], ⟨none, rfl, rfl⟩, ?_, ?_⟩
          · rintro j ρ w2 hj ⟨x, rfl, rfl⟩
            rw [Int.toNat_natCast] at hj
            have hl : (A - u.base).toNat + j < row.length := by omega
            have hix : atI (row.map D.int) (A - u.base + (j : Nat)) = some (.int (row.getD ((A - u.base).toNat + j) 0)) := by
              have e : A - u.base + ((j : Nat) : Int) = (((A - u.base).toNat + j : Nat) : Int) := by omega
              rw [e, List.getD_eq_getElem?_getD, List.getElem?_eq_getElem hl]
              exact atI_intsD (List.getElem?_eq_getElem hl)
            have hbyte : Byte (row.getD ((A - u.base).toNat + j) 0) := by
              rw [List.getD_eq_getElem?_getD, List.getElem?_eq_getElem hl]
              exact g4 _ (List.getElem_mem hl)
            have e8 : ((8 : Int) * (j : Int)).toNat = 8 * j := by omega
            refine ⟨6, f, _, hf, f6, _, _, W.g, atI_map hb1, _, _, hb2, hix, .inl ⟨by decide, by decide⟩, cpow (by omega) (by omega) (by decide) (by decide), .inl ⟨by have := hbyte.1; omega, by have := hbyte.2; omega⟩, some (.int (j : Nat)), rfl, ?_⟩
            have e : rdM row (A - u.base).toNat (j + 1) = rdM row (A - u.base).toNat j + row.getD ((A - u.base).toNat + j) 0 * (1 * 2 ^ ((8 : Int) * (j : Int)).toNat) := by
              rw [e8, Int.one_mul]
              rfl
            rw [e]
            rfl
          · rintro ρ w2 ⟨x, rfl, rfl⟩
            rw [Int.toNat_natCast]
            unfold loadV at q'
            revert q'
            generalize rdM row (A - u.base).toNat (sizeM i.k) = v
            intro q'
            refine ⟨fun ρ w3 => w3 = w2 ∧ ∃ x0 x1 x2 x3 x4 x5 x6 x7 x8, ρ = [x0, some (.ref m), some (.tup [.str (opS i.k), .int i.a, .int i.b, .int i.c]), x1, x2, x3, x4, x5, x6, some (.int (if i.k = 23 ∧ 128 ≤ v then v + 4294967040 else v)), x7, x8], ⟨_, rfl, fun h => ⟨fun h2 => ⟨cpow (by decide) (by decide) (by decide) (by decide), rfl, ?_⟩, fun h2 => ⟨rfl, ?_⟩⟩, fun h => ⟨fun z => absurd (show false = true from z) (by decide), fun _ => ⟨rfl, ?_⟩⟩⟩, ?_⟩
            · have h2' : decide (127 < v) = true := h2
              have h3 := of_decide_eq_true h2'
              rw [if_pos ⟨of_decide_eq_true (aeq hk 23 (by decide) h), by omega⟩]
              have e : v + 4294967040 = v + 2 ^ (32 : Int).toNat - 256 := by rw [q32]; omega
              rw [e]
              exact ⟨_, _, _, _, _, _, _, _, _, rfl⟩
            · have h2' : decide (127 < v) = false := h2
              have h3 := of_decide_eq_false h2'
              rw [if_neg (fun z => by omega)]
              exact ⟨_, _, _, _, _, _, _, _, _, rfl⟩
            · rw [if_neg (fun z => of_decide_eq_false (aeq hk 23 (by decide) h) z.1)]
              exact ⟨_, _, _, _, _, _, _, _, _, rfl⟩
            · rintro ρ w3 ⟨rfl, x0, x1, x2, x3, x4, x5, x6, x7, x8, rfl⟩
              exact ⟨_, rfl, rfl, m, F, s, i.a, _, rfl, W, M.len, O.a0, O.a1, fun w4 W4 hfr => le_w (q' w4 hfr W4)⟩
end
end Rs
set_option maxHeartbeats 4000000
/-! The law's machine: a step. -/
namespace Rs
open PySem PySem.Spec PyProof.Rows L2
theorem in_5 : ∀ k, k < 38 → inS (opS k) [.str "lw", .str "lb", .str "lbu", .str "sw", .str "sb"] = decide (22 ≤ k ∧ k ≤ 26) := by decide +kernel
theorem in_br : ∀ k, k < 38 → inS (opS k) [.str "beq", .str "bne", .str "blt", .str "bge", .str "bltu", .str "bgeu"] = decide (27 ≤ k ∧ k ≤ 32) := by decide +kernel
/-- what a plain instruction leaves -/
def PlainOut (I : Img) (data : List Int) (m : Addr) (F : MF) (s : MS) (i : Ins) (old : Int) (P : D → Wd → Prop) (w' : Wd) : Prop := match plainM I data s i with
  | .inl t => MW w' m F { s with en := .trap t old } → P (.bl false) w'
  | .inr s' => MW w' m F s' → P (.bl true) w'
theorem fetch_nn {I : Img} {pc v : Int} (IO : ImgOk I) (ef : fetchM I pc = some v) : 0 ≤ v := by
  unfold fetchM at ef
  cases e1 : loadOk I pc 4 with
  | none => rw [e1] at ef; cases ef
  | some k =>
    rw [e1] at ef
    have ef' : (if (segOf I k).ex = true then some (rdM (segOf I k).vals (pc - (segOf I k).base).toNat 4) else none) = some v := ef
    split at ef'
    · cases ef'
      obtain ⟨u, hu, hin⟩ := home_some (loadOk_home e1)
      rw [segOf_at hu]
      obtain ⟨g0, g1, g2⟩ := inSeg_place hin (n := 4) rfl
      exact (rdM_bound 4 g1 (IO.segs _ (List.mem_of_getElem? hu)).bs).1
    · cases ef'
section
variable {P : Program} {w : World} {K : PySem.W.Frag} {mg : Str → Option Value} {base : Heap}

theorem sc__law_plain : FnScope ["_law_image_here", "_law_data", "_law_m", "_law_row", "_law_old", "_law_op"] ["_law_image_here", "_law_data", "_law_m", "_law_row", "_law_old"] (defScope (top 69)) := ⟨rfl, rfl, rfl, by decide +kernel, rfl, by decide +kernel, by decide +kernel⟩
def fLPlain : DSp := fun ds w P => ∃ I data m F s i old da, ds = [imgD I, .ref da, .ref m, insD i, .int old] ∧ ImgOk I ∧ MsOk I data s ∧ InsOk i ∧ isJump i.k = false ∧ w da = some (.lst (data.map D.int)) ∧ da ≠ m ∧ da ∉ F.ls ∧ s.out.length ≤ 1000 ∧ MW w m F s ∧
  ∀ w', Fr m F w w' → PlainOut I data m F s i old P w'
theorem ok__law_plain (T : Tx K mg) (k__law_touch : Kp P w K mg base 2 "_law_touch" ["_law_image_here", "_law_m", "_law_row", "_law_old"] fLTouch) (k__law_give : Kp P w K mg base 1 "_law_give" ["_law_m", "_law_number", "_law_value"] fLGive) (k__law_ops : Kp P w K mg base 1 "_law_ops" [] fLOps) (k__law_result : Kp P w K mg base 2 "_law_result" ["_law_op", "_law_x", "_law_y"] fLResult) : Kp P w K mg base 3 "_law_plain" ["_law_image_here", "_law_data", "_law_m", "_law_row", "_law_old"] fLPlain := by
  have sc := sc__law_plain
  obtain ⟨f, fd, hm, FD⟩ := T.has 58 (i := 69) (x := "_law_plain") rfl
  refine kp_of FD hm sc (fun _ _ _ _ _ _ us hl => match us, hl with | [_, _, _, _, _], _ => rfl) fun cdv A outer s H E hr => ⟨_, (wss_cons (ws_set (i := 5) sc.nd (we_ix (we_var 3) we_int))
    (wss_cons (ws_if (wt_inL (we_var 5) (wa_cons we_str (wa_cons we_str (wa_cons we_str (wa_cons we_str (wa_cons we_str wa_nil)))))) (wss_one (ws_ret (we_call (k__law_touch.mono (by decide)) hr (wa_cons (we_var 0) (wa_cons (we_var 2) (wa_cons (we_var 3) (wa_cons (we_var 4) wa_nil))))))) wss_nil)
    (wss_cut (ws_if (wt_eq hr (we_var 5) we_str) (wss_cons (ws_expr (we_call (k__law_give.mono (by decide)) hr (wa_cons (we_var 2) (wa_cons (we_ix (we_var 3) we_int) (wa_cons (we_if (wt_lt (we_get hr (we_var 2)) (we_len (T.fre 0 rfl) (wa_cons (we_var 1) wa_nil))) (we_ix (we_var 1) (we_get hr (we_var 2))) (we_sub (we_pow we_int we_int) we_int)) wa_nil)))))
    (wss_one (ws_put hr (we_min (by rfl) (T.fre 6 rfl) (wa_cons (we_add (we_get hr (we_var 2)) we_int) (wa_cons (we_len (T.fre 0 rfl) (wa_cons (we_var 1) wa_nil)) wa_nil))) (we_var 2)))) (wss_one (ws_if (wt_eq hr (we_var 5) we_str) (wss_one (ws_expr (we_app (we_get hr (we_var 2)) (we_mod (we_intOf (T.fre 4 rfl) (wa_cons (we_ix (we_get hr (we_var 2)) (we_ix (we_var 3) we_int)) wa_nil)) we_int)))) (wss_one (ws_if (wt_eq hr (we_var 5) we_str) (wss_one (ws_expr (we_call (k__law_give.mono (by decide)) hr (wa_cons (we_var 2) (wa_cons (we_ix (we_var 3) we_int) (wa_cons (we_mul (we_ix (we_var 3) we_int) we_int) wa_nil)))))) (wss_one (ws_if (wt_lt (we_idxL (we_call0 (k__law_ops.mono (by decide)) hr) (we_var 5)) we_int) (wss_one (ws_expr (we_call (k__law_give.mono (by decide)) hr (wa_cons (we_var 2) (wa_cons (we_ix (we_var 3) we_int) (wa_cons (we_call (k__law_result.mono (by decide)) hr (wa_cons (we_var 5) (wa_cons (we_ix (we_get hr (we_var 2)) (we_ix (we_var 3) we_int)) (wa_cons (we_ix (we_get hr (we_var 2)) (we_ix (we_var 3) we_int)) wa_nil)))) wa_nil)))))) (wss_one (ws_expr (we_call (k__law_give.mono (by decide)) hr (wa_cons (we_var 2) (wa_cons (we_ix (we_var 3) we_int) (wa_cons (we_call (k__law_result.mono (by decide)) hr (wa_cons (we_sl (we_var 5) wo_none (wo_some (we_sub (we_len (T.fre 0 rfl) (wa_cons (we_var 5) wa_nil)) we_int))) (wa_cons (we_ix (we_get hr (we_var 2)) (we_ix (we_var 3) we_int)) (wa_cons (we_mod (we_intOf (T.fre 4 rfl) (wa_cons (we_ix (we_var 3) we_int) wa_nil)) (we_pow we_int we_int)) wa_nil)))) wa_nil)))))))))))))
    (wss_one (ws_ret we_bl))))), fun ds wd Q hl hF => ?_⟩
  obtain ⟨I, data, m, F, s, i, old, da, rfl, IO, M, O, hj, hda, hd1, hd2, hol, W, q⟩ := hF
  have hk := O.hk
  have hj' : ¬ (27 ≤ i.k ∧ i.k ≤ 34 ∨ i.k = 37) := of_decide_eq_false hj
  have ra := reg_at M O.a0 O.a1
  obtain ⟨f, hf, f1, f2, f3, f4, f5, f6⟩ := W.dict
  refine ⟨_, ins0, sz rfl, rfl, fun h => ?_, fun h => ?_⟩
  · rw [in_5 _ hk] at h
    have h' := of_decide_eq_true h
    refine ⟨rfl, I, data, m, F, s, i, old, rfl, IO, M, O, h'.1, h'.2, W, fun w' hfr => ?_⟩
    have z := q w' hfr
    unfold PlainOut at z
    revert z
    cases plainM I data s i with
    | inl t => exact fun z h => le_w (z h)
    | inr s' => exact fun z h => le_w (z h)
  · rw [in_5 _ hk] at h
    have n0 := of_decide_eq_false h
    unfold PlainOut plainM at q
    rw [if_neg (by omega), if_neg (by omega)] at q
    refine ⟨fun ρ w' => Q (.bl true) w', ⟨fun h1 => ?_, fun h1 => ⟨fun h2 => ?_, fun h2 => ⟨fun h3 => ?_, fun h3 => ?_⟩⟩⟩, fun ρ w' hq => le_w hq⟩
    · have e := of_decide_eq_true (aeq hk 35 (by decide) h1)
      rw [if_pos e] at q
      have key : ∀ v, v = data.getD s.taken (4294967296 - 1) → fLGive [.ref m, .int i.a, .int v] wd fun _ w1 => dPut (dMin (dCons (dAdd (dGet (dVar 2) "taken") (dC (.int 1))) (dCons (dLen (dCons (dVar 1) dNil)) dNil))) (dVar 2) "taken"
          { nx := fun ρ w' => Q (.bl true) w', rt := (endD Q).rt, bk := (endD Q).bk, ct := (endD Q).ct } [some (imgD I), some (.ref da), some (.ref m), some (insD i), some (.int old), some (.str (opS i.k))] w1 := by
        rintro v rfl
        refine ⟨m, F, s, i.a, _, rfl, W, M.len, O.a0, O.a1, fun w' W' hfr => ?_⟩
        obtain ⟨f', hf', _, _, f3', _, _, _⟩ := W'.dict
        have hda' := hfr da _ hd1 hd2 hda
        obtain ⟨f2', hg1, hg2, hg3⟩ := W'.settaken
        refine ⟨6, f', _, hf', f3', _, hda', 6, f2', 6, hg1, by decide, .inl ⟨rfl, hg2⟩, ?_⟩
        have z := hg3 (min (s.taken + 1) data.length)
        have e2 : (if (((data.map D.int).length : Nat) : Int) < ((s.taken : Nat) : Int) + 1 then (((data.map D.int).length : Nat) : Int) else ((s.taken : Nat) : Int) + 1) = ((min (s.taken + 1) data.length : Nat) : Int) := by
          rw [List.length_map, min_eq]
        have z2 : MW (updW w' m (.dct 6 (putF f2' "taken" (.int (if (((data.map D.int).length : Nat) : Int) < ((s.taken : Nat) : Int) + 1 then (((data.map D.int).length : Nat) : Int) else ((s.taken : Nat) : Int) + 1))))) m F { s with regs := setR s.regs i.a (data.getD s.taken (4294967296 - 1)), taken := min (s.taken + 1) data.length } := by
          rw [e2]
          exact z
        exact q _ (hfr.trans fr_dict) z2
      refine ⟨_, ins1, ⟨6, f, _, hf, f3, _, hda, fun g => ?_, fun g => ?_⟩⟩
      · have g' : s.taken < data.length := by
          have := of_decide_eq_true g
          rw [List.length_map] at this
          omega
        have eg := List.getElem?_eq_getElem g'
        exact ⟨6, f, _, hf, f3, _, _, hda, atI_intsD eg, rfl, key _ (by rw [List.getD_eq_getElem?_getD, eg]; rfl)⟩
      · have g' : ¬ s.taken < data.length := by
          have := of_decide_eq_false g
          rw [List.length_map] at this
          omega
        have eg := List.getElem?_eq_none (show data.length ≤ s.taken by omega)
        exact ⟨cpow (by decide) (by decide) (by decide) (by decide), rfl, key _ (by rw [List.getD_eq_getElem?_getD, eg]; rfl)⟩
    · have e := of_decide_eq_true (aeq hk 36 (by decide) h2)
      rw [if_neg (by omega), if_pos e] at q
      refine ⟨6, f, _, hf, f4, ⟨_, _, rfl, W.o⟩, 6, f, _, hf, f1, _, ins1, _, _, W.r, ra, (by decide : (0 : Int) < 256), _, W.o, ?_, ?_⟩
      · rw [List.length_map]
        exact Nat.lt_of_le_of_lt hol (by decide)
      · have z := W.setout (s.out ++ [reg s i.a % 256])
        rw [List.map_append] at z
        exact q _ (fr_in (List.mem_cons_of_mem _ List.mem_cons_self)) z
    · have e := of_decide_eq_true (aeq hk 21 (by decide) h3)
      rw [if_neg (by omega), if_neg (by omega), if_pos e] at q
      exact ⟨_, ins1, _, ins2 (by omega), .inl ⟨by have := O.b0; omega, by have := O.b1; omega⟩, rfl, m, F, s, i.a, _, rfl, W, M.len, O.a0, O.a1, fun w' W' hfr => q w' hfr W'⟩
    · have n1 := of_decide_eq_false (aeq hk 35 (by decide) h1)
      have n2 := of_decide_eq_false (aeq hk 36 (by decide) h2)
      have n3 := of_decide_eq_false (aeq hk 21 (by decide) h3)
      have hk21 : i.k < 21 := by omega
      have hb := O.br (by omega)
      rw [if_neg n1, if_neg n2, if_neg n3] at q
      refine ⟨rfl, rfl, fun b hb2 => ⟨⟨b, _, rfl, updW_same⟩, b, cOPS, opS i.k, i.k, rfl, updW_same, rfl, ops_at _ hk, ops_first _ hk, fun h4 => ?_, fun h4 => ?_⟩⟩
      · have e : i.k < 13 := by have := of_decide_eq_true h4; omega
        rw [if_pos e] at q
        have hf' := (LE.new (o := .lst (cOPS.map D.str)) hb2) _ _ hf
        have W2 := W.mono (LE.new (o := .lst (cOPS.map D.str)) hb2)
        obtain ⟨c0, c1⟩ := O.cr e
        refine ⟨_, ins1, 6, f, _, hf', f1, _, ins2 (by omega), _, _, W2.r, reg_at M hb.1 hb.2, 6, f, _, hf', f1, _, ins3 (by omega) (by omega), _, _, W2.r, reg_at M c0 c1, rfl, i.k, _, _, rfl, e, reg_word M hb.1 hb.2, reg_word M c0 c1, rfl, m, F, s, i.a, _, rfl, W2, M.len, O.a0, O.a1, fun w' W' hfr => q w' ((Fr.le (LE.new hb2)).trans hfr) W'⟩
      · have e : ¬ i.k < 13 := by have := of_decide_eq_false h4; omega
        rw [if_neg e] at q
        have hf' := (LE.new (o := .lst (cOPS.map D.str)) hb2) _ _ hf
        have W2 := W.mono (LE.new (o := .lst (cOPS.map D.str)) hb2)
        have ec := op_cut i.k hk21 (by omega)
        have q32 : (2 : Int) ^ (32 : Int).toNat = 4294967296 := rfl
        have z32 : (0 : Int) < 2 ^ (32 : Int).toNat := by rw [q32]; decide
        have ow : Word (i.c % 2 ^ (32 : Int).toNat) := by rw [q32]; exact mod_word _
        refine ⟨_, ins1, sz2 (Nat.le_trans (op_len i.k hk) (by decide)), sz2 (Nat.le_trans (op_len i.k hk) (by decide)), 6, f, _, hf', f1, _, ins2 (by omega), _, _, W2.r, reg_at M hb.1 hb.2, _, ins3 (by omega) (by omega), cpow (by decide) (by decide) (by decide) (by decide), z32, rfl, aluB i.k, _, _, ?_, aluB_lt hk21, reg_word M hb.1 hb.2, ow, rfl, m, F, s, i.a, _, rfl, W2, M.len, O.a0, O.a1, fun w' W' hfr => q w' ((Fr.le (LE.new hb2)).trans hfr) ?_⟩
        · show [D.str (cutS (opS i.k) none (some ((((opS i.k).length : Nat) : Int) - 1))), _, _] = _
          rw [ec]
        · rw [q32] at W'
          exact W'

theorem sc__law_step : FnScope ["_law_image_here", "_law_data", "_law_m", "_law_pc", "_law_word_here", "_law_row", "_law_op", "_law_after", "_law_target"] ["_law_image_here", "_law_data", "_law_m"] (defScope (top 70)) := ⟨rfl, rfl, rfl, by decide +kernel, rfl, by decide +kernel, by decide +kernel⟩
def fLStep : DSp := fun ds w P => ∃ I data m F s da, ds = [imgD I, .ref da, .ref m] ∧ ImgOk I ∧ MsOk I data s ∧ w da = some (.lst (data.map D.int)) ∧ da ≠ m ∧ da ∉ F.ls ∧ s.out.length ≤ 1000 ∧ MW w m F s ∧
  ∀ w', Fr m F w w' → MW w' m F (stepM I data s) → P .non w'
theorem ok__law_step (T : Tx K mg) (k__law_fetch : Kp P w K mg base 2 "_law_fetch" ["_law_image_here", "_law_pc"] fLFetch) (k__law_read : Kp P w K mg base 3 "_law_read" ["_law_word_here"] fDecode) (k__law_give : Kp P w K mg base 1 "_law_give" ["_law_m", "_law_number", "_law_value"] fLGive)
    (k__law_holds : Kp P w K mg base 2 "_law_holds" ["_law_op", "_law_x", "_law_y"] fHolds) (k__law_plain : Kp P w K mg base 3 "_law_plain" ["_law_image_here", "_law_data", "_law_m", "_law_row", "_law_old"] fLPlain) : Kp P w K mg base 4 "_law_step" ["_law_image_here", "_law_data", "_law_m"] fLStep := by
  have sc := sc__law_step
  obtain ⟨f, fd, hm, FD⟩ := T.has 59 (i := 70) (x := "_law_step") rfl
  refine kp_of FD hm sc (fun _ _ _ _ _ _ us hl => match us, hl with | [_, _, _], _ => rfl) fun cdv A outer s H E hr => ⟨_, (wss_cons (ws_if (wt_ne hr (we_get hr (we_var 2)) (we_tup (wa_cons we_str wa_nil))) (wss_one ws_retN) wss_nil)
    (wss_cons (ws_set (i := 3) sc.nd (we_get hr (we_var 2)))
    (wss_cons (ws_set (i := 4) sc.nd (we_call (k__law_fetch.mono (by decide)) hr (wa_cons (we_var 0) (wa_cons (we_var 3) wa_nil))))
    (wss_cut (ws_set (i := 5) sc.nd (we_if (wt_ge (we_var 4) we_int) (we_call (k__law_read.mono (by decide)) hr (wa_cons (we_var 4) wa_nil)) we_non))
    (wss_cons (ws_if (wt_is (we_var 5) we_non) (wss_cons (ws_put hr (we_tup (wa_cons we_str (wa_cons (we_if (wt_lt (we_var 4) we_int) we_str we_str) (wa_cons (we_var 3) wa_nil)))) (we_var 2))
    (wss_one ws_retN)) wss_nil)
    (wss_cons (ws_set (i := 6) sc.nd (we_ix (we_var 5) we_int))
    (wss_cut (ws_set (i := 7) sc.nd (we_mod (we_intOf (T.fre 4 rfl) (wa_cons (we_add (we_var 3) we_int) wa_nil)) (we_pow we_int we_int)))
    (wss_one (ws_if (wt_eq hr (we_var 6) we_str) (wss_one (ws_put hr (we_tup (wa_cons we_str (wa_cons (we_mod (we_intOf (T.fre 4 rfl) (wa_cons (we_ix (we_get hr (we_var 2)) (we_ix (we_var 5) we_int)) wa_nil)) we_int) wa_nil))) (we_var 2))) (wss_one (ws_if (wt_eq hr (we_var 6) we_str) (wss_cons (ws_expr (we_call (k__law_give.mono (by decide)) hr (wa_cons (we_var 2) (wa_cons (we_ix (we_var 5) we_int) (wa_cons (we_var 7) wa_nil)))))
    (wss_one (ws_put hr (we_mod (we_intOf (T.fre 4 rfl) (wa_cons (we_add (we_var 3) (we_mul we_int (we_ix (we_var 5) we_int))) wa_nil)) (we_pow we_int we_int)) (we_var 2)))) (wss_one (ws_if (wt_eq hr (we_var 6) we_str) (wss_cons (ws_set (i := 8) sc.nd (we_mod (we_intOf (T.fre 4 rfl) (wa_cons (we_add (we_ix (we_get hr (we_var 2)) (we_ix (we_var 5) we_int)) (we_ix (we_var 5) we_int)) wa_nil)) (we_pow we_int we_int)))
    (wss_cons (ws_expr (we_call (k__law_give.mono (by decide)) hr (wa_cons (we_var 2) (wa_cons (we_ix (we_var 5) we_int) (wa_cons (we_var 7) wa_nil)))))
    (wss_one (ws_put hr (we_var 8) (we_var 2))))) (wss_one (ws_if (wt_inL (we_var 6) (wa_cons we_str (wa_cons we_str (wa_cons we_str (wa_cons we_str (wa_cons we_str (wa_cons we_str wa_nil))))))) (wss_cons (ws_put hr (we_var 7) (we_var 2))
    (wss_one (ws_if (wt_val (we_call (k__law_holds.mono (by decide)) hr (wa_cons (we_var 6) (wa_cons (we_ix (we_get hr (we_var 2)) (we_ix (we_var 5) we_int)) (wa_cons (we_ix (we_get hr (we_var 2)) (we_ix (we_var 5) we_int)) wa_nil))))) (wss_one (ws_put hr (we_mod (we_intOf (T.fre 4 rfl) (wa_cons (we_add (we_var 3) (we_mul we_int (we_ix (we_var 5) we_int))) wa_nil)) (we_pow we_int we_int)) (we_var 2))) wss_nil))) (wss_one (ws_if (wt_val (we_call (k__law_plain.mono (by decide)) hr (wa_cons (we_var 0) (wa_cons (we_var 1) (wa_cons (we_var 2) (wa_cons (we_var 5) (wa_cons (we_var 3) wa_nil))))))) (wss_one (ws_put hr (we_var 7) (we_var 2))) wss_nil))))))))))))))))), fun ds wd Q hl hF => ?_⟩
  obtain ⟨I, data, m, F, s, da, rfl, IO, M, hda, hd1, hd2, hol, W, q⟩ := hF
  obtain ⟨f, hf, f1, f2, f3, f4, f5, f6⟩ := W.dict
  unfold stepM at q
  refine ⟨6, f, _, hf, f5, sz rfl, ne_en ⟨fun h => ?_, fun h => ?_⟩⟩
  · have h' : (!s.en.live) = true := h
    refine le_w (q wd (Fr.refl _ _ _) ?_)
    cases e : s.en with
    | none => rw [e] at h'; cases h'
    | exit c => exact W
    | trap t a => exact W
  · have h' : (!s.en.live) = false := h
    have en0 : s.en = .none := by
      cases e : s.en with
      | none => rfl
      | exit c => rw [e] at h'; cases h'
      | trap t a => rw [e] at h'; cases h'
    have q' : ∀ w', Fr m F wd w' → MW w' m F (match fetchM I s.pc with
      | none => { s with en := .trap .fetch s.pc }
      | some w => match decM w with
        | none => { s with en := .trap .illegal s.pc }
        | some i => execM I data s i) → Q .non w' := by
      rw [en0] at q
      exact q
    clear q
    have q32 : (2 : Int) ^ (32 : Int).toNat = 4294967296 := rfl
    have z32 : (0 : Int) < 2 ^ (32 : Int).toNat := by rw [q32]; decide
    have pw2 : CPow 2 32 := cpow (by decide) (by decide) (by decide) (by decide)
    refine ⟨6, f, _, hf, f2, rfl, I, s.pc, rfl, IO.ns, ?_⟩
    refine ⟨fun ρ w' => w' = wd ∧ ∃ x, x = (fetchM I s.pc).bind decM ∧ ρ = [some (imgD I), some (.ref da), some (.ref m), some (.int s.pc), some (.int (fetI (fetchM I s.pc))), some (optD x), none, none, none], ?_, ?_⟩
    · cases ef : fetchM I s.pc with
      | none => exact ⟨fun z => absurd (show false = true from z) (by decide), fun _ => ⟨rfl, none, rfl, rfl⟩⟩
      | some v =>
        have v0 := fetch_nn IO ef
        exact ⟨fun _ => ⟨rfl, v, rfl, v0, rfl, _, rfl, rfl⟩, fun z => absurd (of_decide_eq_false (show decide (0 ≤ v) = false from z)) (fun h => h v0)⟩
    · rintro ρ w' ⟨rfl, x, hx, rfl⟩
      have hd : ∀ t : Tw, ∃ f, w' m = some (.dct 6 f) ∧ (f "end").isSome = true ∧ MW (updW w' m (.dct 6 (putF f "end" (.tup [.str "trap", .str (Tw.s t), .int s.pc])))) m F { s with en := .trap t s.pc } := by
        intro t
        obtain ⟨f, a, b, c⟩ := W.seten
        exact ⟨f, a, b, c (.trap t s.pc)⟩
      cases ef : fetchM I s.pc with
      | none =>
        rw [ef] at q' hx
        have hx' : x = none := hx
        subst hx'
        obtain ⟨g, g1, g2, g3⟩ := hd .fetch
        exact ⟨fun _ => ⟨fun _ => ⟨sz rfl, 6, g, 6, g1, by decide, .inl ⟨rfl, g2⟩, le_w (q' _ fr_dict g3)⟩, fun z => absurd (show true = false from z) (by decide)⟩, fun z => absurd (show true = false from z) (by decide)⟩
      | some v =>
        have v0 := fetch_nn IO ef
        have q2 : ∀ w2, Fr m F w' w2 → MW w2 m F (match decM v with
          | none => { s with en := .trap .illegal s.pc }
          | some i => execM I data s i) → Q .non w2 := by
          rw [ef] at q'
          exact q'
        clear q'
        rw [ef] at hx
        have hx2 : x = decM v := hx
        clear hx
        cases ed : decM v with
        | none =>
          rw [ed] at q2 hx2
          subst hx2
          obtain ⟨g, g1, g2, g3⟩ := hd .illegal
          exact ⟨fun _ => ⟨fun z => absurd (of_decide_eq_true (show decide (v < 0) = true from z)) (by omega), fun _ => ⟨sz rfl, 6, g, 6, g1, by decide, .inl ⟨rfl, g2⟩, le_w (q2 _ fr_dict g3)⟩⟩, fun z => absurd (show true = false from z) (by decide)⟩
        | some i =>
          have O := decM_ok v0 ed
          have hk := O.hk
          have q3 : ∀ w2, Fr m F w' w2 → MW w2 m F (execM I data s i) → Q .non w2 := by
            rw [ed] at q2
            exact q2
          clear q2
          rw [ed] at hx2
          subst hx2
          have ra := reg_at M O.a0 O.a1
          refine ⟨fun z => absurd (show false = true from z) (by decide), fun _ => ⟨_, ins0, fun ρ w2 => w2 = w' ∧ ∃ z, ρ = [some (imgD I), some (.ref da), some (.ref m), some (.int s.pc), z, some (insD i), some (.str (opS i.k)), some (.int ((s.pc + 4) % 4294967296)), none], ⟨pw2, z32, rfl, _, rfl⟩, ?_⟩⟩
          rintro ρ w2 ⟨rfl, z, rfl⟩
          have br : i.k ≠ 33 → i.k ≠ 21 → 0 ≤ i.b ∧ i.b < 16 := fun h1 h2 => O.br (by omega)
          have mul4 : ∀ x : Int, CMul 4 x := fun x => .inl ⟨by decide, by decide⟩
          unfold execM at q3
          refine ⟨fun h1 => ?_, fun h1 => ⟨fun h2 => ?_, fun h2 => ⟨fun h3 => ?_, fun h3 => ⟨sz rfl, rfl, fun h4 => ?_, fun h4 => ?_⟩⟩⟩⟩
          · have e := of_decide_eq_true (aeq hk 37 (by decide) h1)
            rw [if_pos (show isJump i.k = true from decide_eq_true (by omega))] at q3
            unfold jumpM at q3
            rw [if_pos e] at q3
            obtain ⟨g, g1, g2, g3⟩ := W.seten
            exact ⟨6, f, _, hf, f1, _, ins1, _, _, W.r, ra, (by decide : (0 : Int) < 256), sz rfl, 6, g, 6, g1, by decide, .inl ⟨rfl, g2⟩, le_w (q3 _ fr_dict (g3 (.exit (reg s i.a % 256))))⟩
          · have e := of_decide_eq_true (aeq hk 33 (by decide) h2)
            rw [if_pos (show isJump i.k = true from decide_eq_true (by omega))] at q3
            unfold jumpM at q3
            rw [if_neg (by omega), if_pos e] at q3
            refine ⟨_, ins1, rfl, m, F, s, i.a, _, rfl, W, M.len, O.a0, O.a1, fun w3 W3 hfr => ⟨_, ins2 (by omega), mul4 _, pw2, z32, ?_⟩⟩
            obtain ⟨g, g1, g2, g3⟩ := W3.setpc
            exact ⟨6, g, 6, g1, by decide, .inl ⟨rfl, g2⟩, le_w (q3 _ (hfr.trans fr_dict) (g3 ((s.pc + 4 * i.b) % 4294967296)))⟩
          · have e := of_decide_eq_true (aeq hk 34 (by decide) h3)
            rw [if_pos (show isJump i.k = true from decide_eq_true (by omega))] at q3
            unfold jumpM at q3
            rw [if_neg (by omega), if_neg (by omega), if_pos e] at q3
            have hb := br (by omega) (by omega)
            refine ⟨6, f, _, hf, f1, _, ins2 (by omega), _, _, W.r, reg_at M hb.1 hb.2, _, ins3 (by omega) (by omega), pw2, z32, _, ins1, rfl, m, F, s, i.a, _, rfl, W, M.len, O.a0, O.a1, fun w3 W3 hfr => ?_⟩
            obtain ⟨g, g1, g2, g3⟩ := W3.setpc
            exact ⟨6, g, 6, g1, by decide, .inl ⟨rfl, g2⟩, le_w (q3 _ (hfr.trans fr_dict) (g3 ((reg s i.b + i.c) % 4294967296)))⟩
          · rw [in_br _ hk] at h4
            have e := of_decide_eq_true h4
            rw [if_pos (show isJump i.k = true from decide_eq_true (by omega))] at q3
            unfold jumpM at q3
            rw [if_neg (by omega), if_neg (by omega), if_neg (by omega)] at q3
            have hb := br (by omega) (by omega)
            obtain ⟨g, g1, g2, g3⟩ := W.setpc
            have W3 := g3 ((s.pc + 4) % 4294967296)
            obtain ⟨f', hf', f1', _, _, _, _, _⟩ := W3.dict
            refine ⟨6, g, 6, g1, by decide, .inl ⟨rfl, g2⟩, 6, f', _, hf', f1', _, ins1, _, _, W3.r, ra, 6, f', _, hf', f1', _, ins2 (by omega), _, _, W3.r, reg_at M hb.1 hb.2, rfl, i.k, _, _, rfl, by omega, by omega, reg_word M O.a0 O.a1, reg_word M hb.1 hb.2, fun h5 => ⟨_, ins3 (by omega) (by omega), mul4 _, pw2, z32, ?_⟩, fun h5 => ?_⟩
            · rw [if_pos h5] at q3
              obtain ⟨g', g1', g2', g3'⟩ := W3.setpc
              exact ⟨6, g', 6, g1', by decide, .inl ⟨rfl, g2'⟩, le_w (q3 _ (fr_dict.trans fr_dict) (g3' ((s.pc + 4 * i.c) % 4294967296)))⟩
            · rw [if_neg (by rw [show holdsM i.k (reg s i.a) (reg s i.b) = false from h5]; decide)] at q3
              exact le_w (q3 _ fr_dict W3)
          · rw [in_br _ hk] at h4
            have n4 := of_decide_eq_false h4
            have n1 := of_decide_eq_false (aeq hk 37 (by decide) h1)
            have n2 := of_decide_eq_false (aeq hk 33 (by decide) h2)
            have n3 := of_decide_eq_false (aeq hk 34 (by decide) h3)
            have hj : isJump i.k = false := decide_eq_false (by omega)
            rw [if_neg (by rw [hj]; decide)] at q3
            refine ⟨rfl, I, data, m, F, s, i, s.pc, da, rfl, IO, M, O, hj, hda, hd1, hd2, hol, W, fun w3 hfr => ?_⟩
            unfold PlainOut
            cases ep : plainM I data s i with
            | inl t =>
              rw [ep] at q3
              exact fun W3 => ⟨fun z => absurd (show false = true from z) (by decide), fun _ => le_w (q3 _ hfr W3)⟩
            | inr s' =>
              rw [ep] at q3
              refine fun W3 => ⟨fun _ => ?_, fun z => absurd (show true = false from z) (by decide)⟩
              obtain ⟨g, g1, g2, g3⟩ := W3.setpc
              exact ⟨6, g, 6, g1, by decide, .inl ⟨rfl, g2⟩, le_w (q3 _ (hfr.trans fr_dict) (g3 ((s.pc + 4) % 4294967296)))⟩

theorem sc__law_state : FnScope ["_law_m", "_law_memory_here", "_law_row"] ["_law_m"] (defScope (top 71)) := ⟨rfl, rfl, rfl, by decide +kernel, rfl, by decide +kernel, by decide +kernel⟩
def fLState : DSp := fun ds w P => ∃ m F s, ds = [.ref m] ∧ s.mem.length ≤ 1000 ∧ MW w m F s ∧ P (msD s) w
theorem ok__law_state (T : Tx K mg) : Kp P w K mg base 1 "_law_state" ["_law_m"] fLState := by
  have sc := sc__law_state
  obtain ⟨f, fd, hm, FD⟩ := T.has 60 (i := 71) (x := "_law_state") rfl
  refine kp_of FD hm sc (fun _ _ _ _ _ _ us hl => match us, hl with | [_], _ => rfl) fun cdv A outer s H E hr => ⟨_, (wss_cons (ws_set (i := 1) sc.nd (we_tupOf (T.fre 2 rfl) (wa_cons (we_lcL (by rfl) sc.nd (we_get hr (we_var 0)) (blkOk_by (N := ["_law_m", "_law_memory_here", "_law_row"]) (sc := defScope (top 71)) (own := [("_law_row", 2)]) (by decide +kernel)) (fun _ _ _ _ _ => pg_name (i := 2) sc.nd rfl (.inl rfl)) (fun _ _ _ _ _ => (we_tupOf (T.fre 2 rfl) (wa_cons (we_var 2) wa_nil)))) wa_nil)))
    (wss_one (ws_ret (we_tup (wa_cons (we_tupOf (T.fre 2 rfl) (wa_cons (we_get hr (we_var 0)) wa_nil)) (wa_cons (we_get hr (we_var 0)) (wa_cons (we_var 1) (wa_cons (we_get hr (we_var 0)) (wa_cons (we_tupOf (T.fre 2 rfl) (wa_cons (we_get hr (we_var 0)) wa_nil)) (wa_cons (we_get hr (we_var 0)) wa_nil)))))))))), fun ds wd Q hl hF => ?_⟩
  obtain ⟨m, F, s, rfl, hn, W, q⟩ := hF
  obtain ⟨f, hf, f1, f2, f3, f4, f5, f6⟩ := W.dict
  refine ⟨6, f, _, hf, f6, F.rows.map D.ref, .inr ⟨_, rfl, W.g⟩, fun p hp => ⟨fun k w' => w' = updW wd p (.lst ((s.mem.take k).map intsD)), ?_, ?_, ?_, ?_⟩⟩
  · rfl
  · rintro k w' a e hk rfl
    cases e
    rw [updW_ne (fun z => by rw [← z, W.g] at hp; cases hp)]
    exact W.g
  · rintro k x w' hx rfl
    rw [List.getElem?_map] at hx
    cases ha : F.rows[k]? with
    | none => rw [ha] at hx; cases hx
    | some a =>
      rw [ha] at hx
      cases hx
      have hkm : k < s.mem.length := by rw [← W.ml]; exact (List.getElem?_eq_some_iff.mp ha).1
      have hrow := W.rows k a _ ha (List.getElem?_eq_getElem hkm)
      refine ⟨_, (updW_ne (fun z => by rw [← z, hrow] at hp; cases hp)).trans hrow, _, updW_same, ?_, ?_⟩
      · rw [List.length_map, List.length_take]
        exact Nat.lt_of_lt_of_le (show min k s.mem.length < s.mem.length + 1 by omega) (sz2 (by omega))
      · rw [updW_updW]
        have e : (s.mem.take (k + 1)).map intsD = (s.mem.take k).map intsD ++ [intsD s.mem[k]] := by rw [List.take_succ_eq_append_getElem hkm, List.map_append]; rfl
        show _ = updW wd p (.lst ((s.mem.take (k + 1)).map intsD))
        rw [e]
        rfl
  · rintro w' rfl
    have hl := LE.new (o := .lst ((s.mem.take (F.rows.map D.ref).length).map intsD)) hp
    have hf' := hl _ _ hf
    have e : (s.mem.take (F.rows.map D.ref).length) = s.mem := by
      rw [List.length_map, W.ml, List.take_length]
    rw [e] at hl hf' ⊢
    exact ⟨_, updW_same, 6, f, _, hf', f1, _, hl _ _ W.r, 6, f, _, hf', f2, 6, f, _, hf', f3, 6, f, _, hf', f4, _, hl _ _ W.o, 6, f, _, hf', f5, sz rfl, wd, hl, q⟩
end
end Rs
set_option maxHeartbeats 4000000
/-! The law's draws. -/
namespace Rs
open PySem PySem.Spec PyProof.Rows L2
structure DrawAt (w : Wd) (d q : Addr) : Prop where
  ne : d ≠ q
  ex : ∃ (cells : List Int) (i x s : Int), w d = some (.lst [.ref q, .int i, .int x, .int s]) ∧ w q = some (.lst (cells.map D.int)) ∧ (∀ c ∈ cells, 0 ≤ c) ∧ -1 ≤ i ∧ 0 ≤ x ∧ 0 ≤ s
/-- all but one stays -/
def DF (d : Addr) (w w' : Wd) : Prop := ∀ a o, a ≠ d → w a = some o → w' a = some o
theorem DF.refl (d : Addr) (w : Wd) : DF d w w := fun _ _ _ h => h
theorem DF.trans {d : Addr} {w w1 w2 : Wd} (a : DF d w w1) (b : DF d w1 w2) : DF d w w2 := fun c o h1 h => b c o h1 (a c o h1 h)
theorem DF.put {d : Addr} {w : Wd} {o : MO} : DF d w (updW w d o) := fun c u h1 h => by rw [updW_ne h1]; exact h
theorem DF.le {d : Addr} {w w' : Wd} (a : LE w w') : DF d w w' := fun c o _ h => a c o h
theorem DrawAt.mk' {w : Wd} {d q : Addr} {cells : List Int} {i x s : Int} (hn : d ≠ q) (hq : w q = some (.lst (cells.map D.int))) (hc : ∀ c ∈ cells, 0 ≤ c) (h1 : -1 ≤ i) (h2 : 0 ≤ x) (h3 : 0 ≤ s) : DrawAt (updW w d (.lst [.ref q, .int i, .int x, .int s])) d q :=
  ⟨hn, cells, i, x, s, updW_same, by rw [updW_ne (Ne.symm hn)]; exact hq, hc, h1, h2, h3⟩
theorem DrawAt.keep {w w' : Wd} {d q : Addr} (h : DrawAt w d q) (k : ∀ a, a = d ∨ a = q → ∀ o, w a = some o → w' a = some o) : DrawAt w' d q := by
  obtain ⟨hn, c, i, x, s, a, b, r⟩ := h
  exact ⟨hn, c, i, x, s, k d (.inl rfl) _ a, k q (.inr rfl) _ b, r⟩
theorem sz2b {n : Nat} (h : n ≤ 3000001) : n ≤ sizeLine := Nat.le_trans h (by decide)
section
variable {P : Program} {w : World} {K : PySem.W.Frag} {mg : Str → Option Value} {base : Heap}

theorem sc__law_take : FnScope ["_law_draw_here", "_law_many", "_law_found"] ["_law_draw_here", "_law_many"] (defScope (top 39)) := ⟨rfl, rfl, rfl, by decide +kernel, rfl, by decide +kernel, by decide +kernel⟩
def fTake : DSp := fun ds w P => ∃ d q n, ds = [.ref d, .int n] ∧ 0 < n ∧ n < 8589934592 ∧ DrawAt w d q ∧ ∀ v w', 0 ≤ v → v < n → DrawAt w' d q → DF d w w' → P (.int v) w'
theorem ok__law_take (T : Tx K mg) : Kp P w K mg base 1 "_law_take" ["_law_draw_here", "_law_many"] fTake := by
  have sc := sc__law_take
  obtain ⟨f, fd, hm, FD⟩ := T.has 28 (i := 39) (x := "_law_take") rfl
  refine kp_of FD hm sc (fun _ _ _ _ _ _ us hl => match us, hl with | [_, _], _ => rfl) fun cdv A outer s H E hr => ⟨_, (wss_cut (ws_if (wt_eq hr (we_ix (we_var 0) we_int) we_int) (wss_cons (ws_setIx (we_add (we_ix (we_var 0) we_int) we_int) (we_var 0) we_int)
    (wss_cut (ws_if (wt_lt (we_ix (we_var 0) we_int) (we_len (T.fre 0 rfl) (wa_cons (we_ix (we_var 0) we_int) wa_nil))) (wss_one (ws_setIx (we_ix (we_ix (we_var 0) we_int) (we_ix (we_var 0) we_int)) (we_var 0) we_int)) wss_nil)
    (wss_one (ws_if (wt_eq hr (we_ix (we_var 0) we_int) we_int) (wss_cons (ws_setIx (we_mod (we_intOf (T.fre 4 rfl) (wa_cons (we_add (we_mul (we_ix (we_var 0) we_int) we_int) we_int) wa_nil)) we_int) (we_var 0) we_int)
    (wss_one (ws_setIx (we_ix (we_var 0) we_int) (we_var 0) we_int))) wss_nil)))) wss_nil)
    (wss_cons (ws_set (i := 2) sc.nd (we_mod (we_intOf (T.fre 4 rfl) (wa_cons (we_ix (we_var 0) we_int) wa_nil)) (we_var 1)))
    (wss_cons (ws_setIx (we_fdiv (we_ix (we_var 0) we_int) (we_var 1)) (we_var 0) we_int)
    (wss_one (ws_ret (we_var 2)))))), fun ds wd Q hl hF => ?_⟩
  obtain ⟨d, q, n, rfl, n0, n1, A, k⟩ := hF
  obtain ⟨hn, cells, i, x, s, hd, hq, hc, i1, x0, s0⟩ := A
  have dv : ∀ i : Int, CDivW i n := fun i => wide_div (b := 34) n0 (by omega) (by decide) (by decide)
  have mm : (0 : Int) < 2147483647 := by decide
  have fin : ∀ (ρ : DEnv) (w' : Wd), (DrawAt w' d q ∧ DF d wd w' ∧ ρ = [some (.ref d), some (.int n), none]) → dSeq (dSet (dMod (dInt (dCons (dIx (dVar 0) (dC (.int 2))) dNil)) (dVar 1)) 2) (dSeq (dSetIx (dFdiv (dIx (dVar 0) (dC (.int 2))) (dVar 1)) (dVar 0) (dC (.int 2))) (dRet (dVar 2))) (endD Q) ρ w' := by
    rintro ρ w' ⟨⟨_, cells, i, x, s, hd, hq, hc, i1, x0, s0⟩, hf, rfl⟩
    refine ⟨_, _, hd, rfl, n0, _, _, hd, rfl, dv _, _, 2, hd, rfl, le_w (k _ _ (Int.emod_nonneg x (by omega)) (Int.emod_lt_of_pos x n0) ?_ (hf.trans DF.put))⟩
    exact DrawAt.mk' hn hq hc i1 (Int.ediv_nonneg x0 (by omega)) s0
  refine ⟨fun ρ w' => DrawAt w' d q ∧ DF d wd w' ∧ ρ = [some (.ref d), some (.int n), none], ⟨_, _, hd, rfl, fun h => ?_, fun h => ?_⟩, fin⟩
  · refine ⟨_, _, hd, rfl, _, 1, hd, rfl, fun ρ w' => DrawAt w' d q ∧ DF d wd w' ∧ ρ = [some (.ref d), some (.int n), none], ?_, ?_⟩
    · have hq' : updW wd d (.lst [.ref q, .int (i + 1), .int x, .int s]) q = some (.lst (cells.map D.int)) := by rw [updW_ne (Ne.symm hn)]; exact hq
      refine ⟨_, _, updW_same, rfl, _, _, updW_same, rfl, _, hq', fun g => ?_, fun g => ?_⟩
      · have g' : i + 1 < (((cells.map D.int).length : Nat) : Int) := of_decide_eq_true g
        rw [List.length_map] at g'
        obtain ⟨j, hj⟩ := Int.eq_ofNat_of_zero_le (show 0 ≤ i + 1 by omega)
        have hl : j < cells.length := by omega
        have hat : atI (cells.map D.int) (i + 1) = some (.int cells[j]) := by rw [hj]; exact atI_intsD (List.getElem?_eq_getElem hl)
        refine ⟨_, _, updW_same, rfl, _, _, updW_same, rfl, _, _, hq', hat, _, 2, updW_same, rfl, ?_, ?_, rfl⟩
        · exact DrawAt.mk' hn hq' hc (by omega) (hc _ (List.getElem_mem hl)) s0
        · exact DF.put.trans DF.put
      · exact ⟨DrawAt.mk' hn hq hc (by omega) x0 s0, DF.put, rfl⟩
    · rintro ρ w' ⟨⟨_, cells, i, x, s, hd, hq, hc, i1, x0, s0⟩, hf, rfl⟩
      refine ⟨_, _, hd, rfl, fun g => ?_, fun g => ?_⟩
      · have hs : 0 ≤ (s * 48271 + 11) % 2147483647 := Int.emod_nonneg _ (by decide)
        refine ⟨_, _, hd, rfl, .inr ⟨by decide, by decide⟩, mm, _, 3, hd, rfl, _, _, updW_same, rfl, _, 2, updW_same, rfl, ?_, ?_, rfl⟩
        · exact DrawAt.mk' hn (by rw [updW_ne (Ne.symm hn)]; exact hq) hc i1 hs hs
        · exact hf.trans (DF.put.trans DF.put)
      · exact ⟨⟨hn, cells, i, x, s, hd, hq, hc, i1, x0, s0⟩, hf, rfl⟩
  · exact ⟨⟨hn, cells, i, x, s, hd, hq, hc, i1, x0, s0⟩, DF.refl _ _, rfl⟩

theorem sc__law_draw : FnScope ["_law_script", "_law_seed", "_law_cell"] ["_law_script"] (defScope (top 38)) := ⟨rfl, rfl, rfl, by decide +kernel, rfl, by decide +kernel, by decide +kernel⟩
def fLDraw : DSp := fun ds w P => ∃ cells : List Int, ds = [.rol (cells.map D.int)] ∧ cells.length ≤ 3000000 ∧ ∀ d q w', DrawAt w' d q → LE w w' → w d = none → w q = none → P (.ref d) w'
theorem ok__law_draw (T : Tx K mg) : Kp P w K mg base 1 "_law_draw" ["_law_script"] fLDraw := by
  have sc := sc__law_draw
  obtain ⟨f, fd, hm, FD⟩ := T.has 27 (i := 38) (x := "_law_draw") rfl
  refine kp_of FD hm sc (fun _ _ _ _ _ _ us hl => match us, hl with | [_], _ => rfl) fun cdv A outer s H E hr => ⟨_, (wss_cons (ws_set (i := 1) sc.nd we_int)
    (wss_cons (ws_forL (i := 2) PassesOwn.never (by rfl) sc.nd (we_var 0) (wss_one (ws_set (i := 1) sc.nd (we_mod (we_intOf (T.fre 4 rfl) (wa_cons (we_add (we_add (we_mul (we_var 1) we_int) (we_mod (we_abs (T.fre 5 rfl) (wa_cons (we_intOf (T.fre 4 rfl) (wa_cons (we_var 2) wa_nil)) wa_nil)) we_int)) we_int) wa_nil)) we_int))))
    (wss_one (ws_ret (we_lst (wa_cons (we_lcL (by rfl) sc.nd (we_var 0) (blkOk_by (N := ["_law_script", "_law_seed", "_law_cell"]) (sc := defScope (top 38)) (own := [("_law_cell", 2)]) (by decide +kernel)) (fun _ _ _ _ _ => pg_name (i := 2) sc.nd rfl (.inl rfl)) (fun _ _ _ _ _ => (we_abs (T.fre 5 rfl) (wa_cons (we_intOf (T.fre 4 rfl) (wa_cons (we_var 2) wa_nil)) wa_nil)))) (wa_cons (we_neg we_int) (wa_cons we_int (wa_cons (we_var 1) wa_nil))))))))), fun ds wd Q hl hF => ?_⟩
  obtain ⟨cells, rfl, hl3, k⟩ := hF
  have mm : (0 : Int) < 2147483647 := by decide
  have m5 : (0 : Int) < 65521 := by decide
  refine ⟨_, .inl rfl, fun j ρ w' => w' = wd ∧ ∃ sd x, 0 ≤ sd ∧ ρ = [some (.rol (cells.map D.int)), some (.int sd), x], ⟨rfl, 7, none, by decide, rfl⟩, ?_, ?_, ?_⟩
  · intro j ρ w' a e
    cases e
  · rintro j x ρ w' hx ⟨rfl, sd, y, hs, rfl⟩
    rw [List.getElem?_map] at hx
    cases hc : cells[j]? with
    | none => rw [hc] at hx; cases hx
    | some c =>
      rw [hc] at hx
      cases hx
      exact ⟨.inr ⟨by decide, by decide⟩, m5, mm, rfl, _, _, Int.emod_nonneg _ (by decide), rfl⟩
  · rintro ρ w' ⟨rfl, sd, y, hs, rfl⟩
    refine ⟨_, .inl rfl, fun p hp => ⟨fun j w2 => w2 = updW w' p (.lst ((cells.take j).map fun c => D.int (if c < 0 then -c else c))), rfl, ?_, ?_, ?_⟩⟩
    · intro j w2 a e
      cases e
    · rintro j x w2 hx rfl
      rw [List.getElem?_map] at hx
      cases hc : cells[j]? with
      | none => rw [hc] at hx; cases hx
      | some c =>
        rw [hc] at hx
        cases hx
        have hj : j < cells.length := (List.getElem?_eq_some_iff.mp hc).1
        refine ⟨_, updW_same, ?_, ?_⟩
        · rw [List.length_map, List.length_take]
          exact Nat.lt_of_lt_of_le (show min j cells.length < cells.length + 1 by omega) (sz2b (by omega))
        · rw [updW_updW]
          have ec : cells[j] = c := (List.getElem?_eq_some_iff.mp hc).2
          have e : (cells.take (j + 1)).map (fun c => D.int (if c < 0 then -c else c)) = (cells.take j).map (fun c => D.int (if c < 0 then -c else c)) ++ [D.int (if c < 0 then -c else c)] := by rw [List.take_succ_eq_append_getElem hj, List.map_append, ec]; rfl
          show _ = updW w' p (.lst ((cells.take (j + 1)).map fun c => D.int (if c < 0 then -c else c)))
          rw [e]
    · rintro w2 rfl
      rw [List.length_map, List.take_length]
      have hl := LE.new (o := .lst (cells.map fun c => D.int (if c < 0 then -c else c))) hp
      refine ⟨sz rfl, fun a ha => le_w (k a p _ ?_ (hl.trans (LE.new ha)) ?_ hp)⟩
      · have hn : a ≠ p := by
          intro e
          rw [e, updW_same] at ha
          cases ha
        refine DrawAt.mk' (cells := cells.map fun c => if c < 0 then -c else c) hn ?_ ?_ (by decide) (by decide) hs
        · rw [updW_same, List.map_map]
          rfl
        · intro c hc
          obtain ⟨b, _, rfl⟩ := List.mem_map.mp hc
          split <;> omega
      · cases e : w' a with
        | none => rfl
        | some u => rw [hl a u e] at ha; cases ha
end
end Rs
set_option maxHeartbeats 4000000
/-! The law's programs under way: what stays true. -/
namespace Rs
open PySem PySem.Spec PyProof.Rows L2
structure GA where
  p : Addr
  d : Addr
  q : Addr
  c : Addr
  t : Addr
def GA.mut (g : GA) : List Addr := [g.p, g.d, g.c, g.t]
structure GA.Ok (g : GA) : Prop where
  pd : g.p ≠ g.d
  pq : g.p ≠ g.q
  pc : g.p ≠ g.c
  pt : g.p ≠ g.t
  dc : g.d ≠ g.c
  dt : g.d ≠ g.t
  qc : g.q ≠ g.c
  qt : g.q ≠ g.t
  ct : g.c ≠ g.t
theorem nmut {g : GA} {a : Addr} (h : a ∉ g.mut) : a ≠ g.p ∧ a ≠ g.d ∧ a ≠ g.c ∧ a ≠ g.t := by
  unfold GA.mut at h
  refine ⟨fun e => h ?_, fun e => h ?_, fun e => h ?_, fun e => h ?_⟩ <;> rw [e]
  · exact List.mem_cons_self
  · exact List.mem_cons_of_mem _ List.mem_cons_self
  · exact List.mem_cons_of_mem _ (List.mem_cons_of_mem _ List.mem_cons_self)
  · exact List.mem_cons_of_mem _ (List.mem_cons_of_mem _ (List.mem_cons_of_mem _ List.mem_cons_self))
theorem nmut_of {g : GA} {a : Addr} (h : a ≠ g.p ∧ a ≠ g.d ∧ a ≠ g.c ∧ a ≠ g.t) : a ∉ g.mut := by
  obtain ⟨h1, h2, h3, h4⟩ := h
  unfold GA.mut
  intro hm
  rcases List.mem_cons.mp hm with e | hm
  · exact h1 e
  rcases List.mem_cons.mp hm with e | hm
  · exact h2 e
  rcases List.mem_cons.mp hm with e | hm
  · exact h3 e
  rcases List.mem_cons.mp hm with e | hm
  · exact h4 e
  cases hm
def toD (l : Nat) : D := .tup [.str "to", .int (l : Nat)]
inductive RowOk (m : Nat) : D → Prop
  | word (v : Int) : Word v → RowOk m (.tup [.str "word", .int v])
  | ins (i : Ins) : InsOk i → RowOk m (insD i)
  | br (k : Nat) (a b : Int) (l : Nat) : 27 ≤ k → k < 33 → 0 ≤ a → a < 16 → 0 ≤ b → b < 16 → l < m → RowOk m (.tup [.str (opS k), .int a, .int b, toD l])
  | jal (a : Int) (l : Nat) : 0 ≤ a → a < 16 → l < m → RowOk m (.tup [.str (opS 33), .int a, toD l])
theorem RowOk.mono {m m' : Nat} {r : D} (h : RowOk m r) (l : m ≤ m') : RowOk m' r := by
  cases h with
  | word v hv => exact .word v hv
  | ins i hi => exact .ins i hi
  | br k a b x h1 h2 h3 h4 h5 h6 h7 => exact .br k a b x h1 h2 h3 h4 h5 h6 (Nat.lt_of_lt_of_le h7 l)
  | jal a x h1 h2 h3 => exact .jal a x h1 h2 (Nat.lt_of_lt_of_le h3 l)
def natsD (xs : List Nat) : List D := xs.map fun x => D.int ((x : Nat) : Int)
structure GX (w : Wd) (g : GA) (n l m : Nat) (f : Str → Option D) (k tb : Addr) (rows : List D) (as0 : List Int) (cs ts : List Nat) : Prop where
  dict : w g.p = some (.dct 6 f)
  fd : f "draw" = some (.ref g.d)
  fc : f "code" = some (.ref g.c)
  ft : f "at" = some (.ref g.t)
  fk : f "calls" = some (.ref k)
  fb : f "table" = some (.ref tb)
  fl : f "left" = some (.int (l : Nat))
  code : w g.c = some (.lst rows)
  ats : w g.t = some (.lst (as0.map D.int))
  calls : w k = some (.lst (natsD cs))
  table : w tb = some (.lst (natsD ts))
  draw : DrawAt w g.d g.q
  kn : k ∉ g.mut
  bn : tb ∉ g.mut
  ok : g.Ok
  l1 : rows.length ≤ n
  l2 : as0.length = m
  l2' : m ≤ n
  l3 : ts.length ≤ n
  l4 : cs.length ≤ 10
  ro : ∀ r ∈ rows, RowOk m r
  ao : ∀ x ∈ as0, -1 ≤ x ∧ x ≤ 2000
  co : ∀ x ∈ cs, x < m
  to : ∀ x ∈ ts, x < m
def GW (w : Wd) (g : GA) (n l m : Nat) : Prop := ∃ f k tb rows ats calls table, GX w g n l m f k tb rows ats calls table
def GF (g : GA) (w w' : Wd) : Prop := ∀ a o, a ∉ g.mut → w a = some o → w' a = some o
theorem GF.refl (g : GA) (w : Wd) : GF g w w := fun _ _ _ h => h
theorem GF.trans {g : GA} {w w1 w2 : Wd} (a : GF g w w1) (b : GF g w1 w2) : GF g w w2 := fun c o h1 h => b c o h1 (a c o h1 h)
theorem GF.le {g : GA} {w w' : Wd} (a : LE w w') : GF g w w' := fun c o _ h => a c o h
theorem GF.put {g : GA} {w : Wd} {b : Addr} {o : MO} (hb : b ∈ g.mut) : GF g w (updW w b o) := fun c u h1 h => by
  rw [updW_ne (fun e => h1 (by rw [e]; exact hb))]
  exact h
theorem GF.df {g : GA} {w w' : Wd} (h : DF g.d w w') : GF g w w' := fun c o h1 hc => h c o (nmut h1).2.1 hc
theorem gm_p {g : GA} : g.p ∈ g.mut := List.mem_cons_self
theorem gm_d {g : GA} : g.d ∈ g.mut := List.mem_cons_of_mem _ List.mem_cons_self
theorem gm_c {g : GA} : g.c ∈ g.mut := List.mem_cons_of_mem _ (List.mem_cons_of_mem _ List.mem_cons_self)
theorem gm_t {g : GA} : g.t ∈ g.mut := List.mem_cons_of_mem _ (List.mem_cons_of_mem _ (List.mem_cons_of_mem _ List.mem_cons_self))
section
variable {w w' : Wd} {g : GA} {n l m : Nat} {f f' : Str → Option D} {k tb : Addr} {rows : List D} {ats : List Int} {calls table : List Nat}
theorem GX.mono (h : GX w g n l m f k tb rows ats calls table) (e : LE w w') : GX w' g n l m f k tb rows ats calls table :=
  { h with dict := e _ _ h.dict, code := e _ _ h.code, ats := e _ _ h.ats, calls := e _ _ h.calls, table := e _ _ h.table, draw := h.draw.keep fun a _ o q => e a o q }
theorem GW.mono (h : GW w g n l m) (e : LE w w') : GW w' g n l m := by
  obtain ⟨f, k, tb, rows, ats, calls, table, X⟩ := h
  exact ⟨f, k, tb, rows, ats, calls, table, X.mono e⟩
theorem GW.mut_some (h : GW w g n l m) {a : Addr} (ha : a ∈ g.mut) : w a ≠ none := by
  obtain ⟨f, k, tb, rows, ats, calls, table, X⟩ := h
  obtain ⟨_, _, _, _, _, hd, _⟩ := X.draw
  unfold GA.mut at ha
  rcases List.mem_cons.mp ha with e | ha
  · rw [e, X.dict]; exact Option.some_ne_none _
  rcases List.mem_cons.mp ha with e | ha
  · rw [e, hd]; exact Option.some_ne_none _
  rcases List.mem_cons.mp ha with e | ha
  · rw [e, X.code]; exact Option.some_ne_none _
  rcases List.mem_cons.mp ha with e | ha
  · rw [e, X.ats]; exact Option.some_ne_none _
  cases ha
theorem GW.fresh (h : GW w g n l m) {a : Addr} (ha : w a = none) : a ∉ g.mut := fun hm => h.mut_some hm ha
theorem GX.push (h : GX w g n l m f k tb rows ats calls table) {r : D} (hr : RowOk m r) : GX (updW w g.c (.lst (rows ++ [r]))) g (n + 1) l m f k tb (rows ++ [r]) ats calls table :=
  { h with
    dict := by rw [updW_ne h.ok.pc]; exact h.dict
    code := updW_same
    ats := by rw [updW_ne (Ne.symm h.ok.ct)]; exact h.ats
    calls := by rw [updW_ne (nmut h.kn).2.2.1]; exact h.calls
    table := by rw [updW_ne (nmut h.bn).2.2.1]; exact h.table
    draw := h.draw.keep fun a ha o q => by
      rcases ha with rfl | rfl
      · rw [updW_ne h.ok.dc]; exact q
      · rw [updW_ne h.ok.qc]; exact q
    l1 := by rw [List.length_append]; exact Nat.succ_le_succ h.l1
    l2' := Nat.le_succ_of_le h.l2'
    l3 := Nat.le_succ_of_le h.l3
    ro := fun x hx => by
      rcases List.mem_append.mp hx with h1 | h1
      · exact h.ro x h1
      · rw [List.mem_singleton.mp h1]; exact hr }
theorem GX.label (h : GX w g n l m f k tb rows ats calls table) : GX (updW w g.t (.lst ((ats ++ [-1]).map D.int))) g (n + 1) l (m + 1) f k tb rows (ats ++ [-1]) calls table :=
  { h with
    dict := by rw [updW_ne h.ok.pt]; exact h.dict
    code := by rw [updW_ne h.ok.ct]; exact h.code
    ats := updW_same
    calls := by rw [updW_ne (nmut h.kn).2.2.2]; exact h.calls
    table := by rw [updW_ne (nmut h.bn).2.2.2]; exact h.table
    draw := h.draw.keep fun a ha o q => by
      rcases ha with rfl | rfl
      · rw [updW_ne h.ok.dt]; exact q
      · rw [updW_ne h.ok.qt]; exact q
    l1 := Nat.le_succ_of_le h.l1
    l2 := by rw [List.length_append, h.l2]; rfl
    l2' := Nat.succ_le_succ h.l2'
    l3 := Nat.le_succ_of_le h.l3
    ro := fun x hx => (h.ro x hx).mono (Nat.le_succ m)
    ao := fun x hx => by
      rcases List.mem_append.mp hx with h1 | h1
      · exact h.ao x h1
      · rw [List.mem_singleton.mp h1]; exact ⟨by decide, by decide⟩
    co := fun x hx => Nat.lt_succ_of_lt (h.co x hx)
    to := fun x hx => Nat.lt_succ_of_lt (h.to x hx) }
theorem GX.here (h : GX w g n l m f k tb rows ats calls table) (j : Nat) {v : Int} (hv : -1 ≤ v ∧ v ≤ 2000) : GX (updW w g.t (.lst ((ats.set j v).map D.int))) g n l m f k tb rows (ats.set j v) calls table :=
  { h with
    dict := by rw [updW_ne h.ok.pt]; exact h.dict
    code := by rw [updW_ne h.ok.ct]; exact h.code
    ats := updW_same
    calls := by rw [updW_ne (nmut h.kn).2.2.2]; exact h.calls
    table := by rw [updW_ne (nmut h.bn).2.2.2]; exact h.table
    draw := h.draw.keep fun a ha o q => by
      rcases ha with rfl | rfl
      · rw [updW_ne h.ok.dt]; exact q
      · rw [updW_ne h.ok.qt]; exact q
    l2 := by rw [List.length_set]; exact h.l2
    ao := fun x hx => by
      rcases List.mem_or_eq_of_mem_set hx with h1 | h1
      · exact h.ao x h1
      · rw [h1]; exact hv }
theorem GX.drawn (h : GX w g n l m f k tb rows ats calls table) (e : DF g.d w w') (A : DrawAt w' g.d g.q) : GX w' g n l m f k tb rows ats calls table :=
  { h with
    dict := e _ _ h.ok.pd h.dict
    code := e _ _ (Ne.symm h.ok.dc) h.code
    ats := e _ _ (Ne.symm h.ok.dt) h.ats
    calls := e _ _ (nmut h.kn).2.1 h.calls
    table := e _ _ (nmut h.bn).2.1 h.table
    draw := A }
/-- another dict, of the same lists but calls, table, left -/
theorem GX.dct (h : GX w g n l m f k tb rows ats calls table) {n' l' : Nat} {k' tb' : Addr} {calls' table' : List Nat} (hf : f' "draw" = some (.ref g.d) ∧ f' "code" = some (.ref g.c) ∧ f' "at" = some (.ref g.t) ∧ f' "calls" = some (.ref k') ∧ f' "table" = some (.ref tb') ∧ f' "left" = some (.int (l' : Nat)))
    (h1 : w k' = some (.lst (natsD calls'))) (h2 : w tb' = some (.lst (natsD table'))) (h3 : k' ∉ g.mut) (h4 : tb' ∉ g.mut) (h5 : calls'.length ≤ 10) (h6 : ∀ x ∈ calls', x < m) (h7 : ∀ x ∈ table', x < m) (h8 : n ≤ n') (h9 : table'.length ≤ n') : GX (updW w g.p (.dct 6 f')) g n' l' m f' k' tb' rows ats calls' table' :=
  { h with
    dict := updW_same
    fd := hf.1
    fc := hf.2.1
    ft := hf.2.2.1
    fk := hf.2.2.2.1
    fb := hf.2.2.2.2.1
    fl := hf.2.2.2.2.2
    code := by rw [updW_ne (Ne.symm h.ok.pc)]; exact h.code
    ats := by rw [updW_ne (Ne.symm h.ok.pt)]; exact h.ats
    calls := by rw [updW_ne (nmut h3).1]; exact h1
    table := by rw [updW_ne (nmut h4).1]; exact h2
    draw := h.draw.keep fun a ha o q => by
      rcases ha with rfl | rfl
      · rw [updW_ne (Ne.symm h.ok.pd)]; exact q
      · rw [updW_ne (Ne.symm h.ok.pq)]; exact q
    kn := h3
    bn := h4
    l1 := Nat.le_trans h.l1 h8
    l2' := Nat.le_trans h.l2' h8
    l3 := h9
    l4 := h5
    co := h6
    to := h7 }
theorem GX.gw (h : GX w g n l m f k tb rows ats calls table) : GW w g n l m := ⟨f, k, tb, rows, ats, calls, table, h⟩
end
def GP (g : GA) (w : Wd) (n l m : Nat) (Pd : Wd → Prop) : Prop := ∀ w', GF g w w' → GW w' g n l m → Pd w'
def After (g : GA) (w : Wd) (n l m c : Nat) (Pd : Wd → Prop) : Prop := ∀ w' n' l' m', GF g w w' → GW w' g n' l' m' → m ≤ m' → l' ≤ l → n' + 12 * l' ≤ n + 12 * l + c → Pd w'
theorem pick_int {ns : List Int} {lo hi : Int} (h : ∀ n ∈ ns, lo ≤ n ∧ n ≤ hi) {v : Int} (h0 : 0 ≤ v) (h1 : v < ((ns.length : Nat) : Int)) : ∃ c, atI (ns.map D.int) v = some (.int c) ∧ lo ≤ c ∧ c ≤ hi := by
  obtain ⟨j, rfl⟩ := Int.eq_ofNat_of_zero_le h0
  have hj : j < ns.length := by omega
  exact ⟨_, atI_intsD (List.getElem?_eq_getElem hj), h _ (List.getElem_mem hj)⟩
theorem pick_op {ks : List Nat} {v : Int} (h0 : 0 ≤ v) (h1 : v < ((ks.length : Nat) : Int)) : ∃ k, k ∈ ks ∧ atI (ks.map fun k => D.str (opS k)) v = some (.str (opS k)) := by
  obtain ⟨j, rfl⟩ := Int.eq_ofNat_of_zero_le h0
  have hj : j < ks.length := by omega
  exact ⟨_, List.getElem_mem hj, atI_map (f := fun k => D.str (opS k)) (List.getElem?_eq_getElem hj)⟩
section
variable {P : Program} {w : World} {K : PySem.W.Frag} {mg : Str → Option Value} {base : Heap}

theorem sc__law_label : FnScope ["_law_p"] ["_law_p"] (defScope (top 43)) := ⟨rfl, rfl, rfl, by decide +kernel, rfl, by decide +kernel, by decide +kernel⟩
def fLabel : DSp := fun ds w P => ∃ g n l m, ds = [.ref g.p] ∧ GW w g n l m ∧ n ≤ 1700 ∧ GP g w (n + 1) l (m + 1) fun w' => P (.int (m : Nat)) w'
theorem ok__law_label (T : Tx K mg) : Kp P w K mg base 1 "_law_label" ["_law_p"] fLabel := by
  have sc := sc__law_label
  obtain ⟨f, fd, hm, FD⟩ := T.has 32 (i := 43) (x := "_law_label") rfl
  refine kp_of FD hm sc (fun _ _ _ _ _ _ us hl => match us, hl with | [_], _ => rfl) fun cdv A outer s H E hr => ⟨_, (wss_cons (ws_expr (we_app (we_get hr (we_var 0)) (we_neg we_int)))
    (wss_one (ws_ret (we_sub (we_len (T.fre 0 rfl) (wa_cons (we_get hr (we_var 0)) wa_nil)) we_int)))), fun ds wd Q hl hF => ?_⟩
  obtain ⟨g, n, l, m, rfl, ⟨f, k, tb, rows, ats, calls, table, X⟩, hn, q⟩ := hF
  have X2 := X.label
  have hn2 := X.l2'
  refine ⟨6, f, _, X.dict, X.ft, ⟨_, _, rfl, X.ats⟩, _, X.ats, ?_, 6, f, _, ?_, X.ft, _, updW_same, le_w ?_⟩
  · rw [List.length_map, X.l2]
    exact Nat.lt_of_le_of_lt (show m ≤ 1700 by omega) (by decide)
  · rw [updW_ne X.ok.pt]
    exact X.dict
  · have z := q _ (GF.put gm_t) X2.gw
    rw [List.map_append] at z
    refine qi z ?_
    show (((ats.map D.int ++ [_]).length : Nat) : Int) - 1 = _
    rw [List.length_append, List.length_map, X.l2, List.length_singleton]
    omega

theorem sc__law_here : FnScope ["_law_p", "_law_label_here"] ["_law_p", "_law_label_here"] (defScope (top 44)) := ⟨rfl, rfl, rfl, by decide +kernel, rfl, by decide +kernel, by decide +kernel⟩
def fHere : DSp := fun ds w P => ∃ g n l m x, ds = [.ref g.p, .int (x : Nat)] ∧ x < m ∧ GW w g n l m ∧ n ≤ 1700 ∧ GP g w n l m fun w' => P .non w'
theorem ok__law_here (T : Tx K mg) : Kp P w K mg base 1 "_law_here" ["_law_p", "_law_label_here"] fHere := by
  have sc := sc__law_here
  obtain ⟨f, fd, hm, FD⟩ := T.has 33 (i := 44) (x := "_law_here") rfl
  refine kp_of FD hm sc (fun _ _ _ _ _ _ us hl => match us, hl with | [_, _], _ => rfl) fun cdv A outer s H E hr => ⟨_, (wss_one (ws_setIx (we_len (T.fre 0 rfl) (wa_cons (we_get hr (we_var 0)) wa_nil)) (we_get hr (we_var 0)) (we_var 1))), fun ds wd Q hl hF => ?_⟩
  obtain ⟨g, n, l, m, x, rfl, hx, ⟨f, k, tb, rows, ats, calls, table, X⟩, hn, q⟩ := hF
  have X2 := X.here x (v := ((rows.length : Nat) : Int)) ⟨by omega, by have := X.l1; omega⟩
  refine ⟨6, f, _, X.dict, X.fc, _, X.code, 6, f, _, X.dict, X.ft, _, x, X.ats, ixR (by rw [List.length_map, X.l2]; exact hx), le_w ?_⟩
  have z := q _ (GF.put gm_t) X2.gw
  rw [List.map_set] at z
  exact z

theorem sc__law_put_word : FnScope ["_law_p", "_law_row"] ["_law_p", "_law_row"] (defScope (top 45)) := ⟨rfl, rfl, rfl, by decide +kernel, rfl, by decide +kernel, by decide +kernel⟩
def fPut : DSp := fun ds w P => ∃ g n l m r, ds = [.ref g.p, r] ∧ RowOk m r ∧ GW w g n l m ∧ n ≤ 1700 ∧ GP g w (n + 1) l m fun w' => P .non w'
theorem ok__law_put_word (T : Tx K mg) : Kp P w K mg base 1 "_law_put_word" ["_law_p", "_law_row"] fPut := by
  have sc := sc__law_put_word
  obtain ⟨f, fd, hm, FD⟩ := T.has 34 (i := 45) (x := "_law_put_word") rfl
  refine kp_of FD hm sc (fun _ _ _ _ _ _ us hl => match us, hl with | [_, _], _ => rfl) fun cdv A outer s H E hr => ⟨_, (wss_one (ws_expr (we_app (we_get hr (we_var 0)) (we_var 1)))), fun ds wd Q hl hF => ?_⟩
  obtain ⟨g, n, l, m, r, rfl, hr, ⟨f, k, tb, rows, ats, calls, table, X⟩, hn, q⟩ := hF
  exact ⟨6, f, _, X.dict, X.fc, ⟨_, _, rfl, X.code⟩, _, X.code, Nat.lt_of_le_of_lt (Nat.le_trans X.l1 hn) (by decide), le_w (q _ (GF.put gm_c) (X.push hr).gw)⟩

theorem sc__law_some : FnScope ["_law_p", "_law_many"] ["_law_p", "_law_many"] (defScope (top 46)) := ⟨rfl, rfl, rfl, by decide +kernel, rfl, by decide +kernel, by decide +kernel⟩
def fSome : DSp := fun ds w P => ∃ g n l m k, ds = [.ref g.p, .int k] ∧ 0 < k ∧ k < 8589934592 ∧ GW w g n l m ∧ ∀ v, 0 ≤ v → v < k → GP g w n l m fun w' => P (.int v) w'
theorem ok__law_some (T : Tx K mg) (k__law_take : Kp P w K mg base 1 "_law_take" ["_law_draw_here", "_law_many"] fTake) : Kp P w K mg base 2 "_law_some" ["_law_p", "_law_many"] fSome := by
  have sc := sc__law_some
  obtain ⟨f, fd, hm, FD⟩ := T.has 35 (i := 46) (x := "_law_some") rfl
  refine kp_of FD hm sc (fun _ _ _ _ _ _ us hl => match us, hl with | [_, _], _ => rfl) fun cdv A outer s H E hr => ⟨_, (wss_one (ws_ret (we_call (k__law_take.mono (by decide)) hr (wa_cons (we_get hr (we_var 0)) (wa_cons (we_var 1) wa_nil))))), fun ds wd Q hl hF => ?_⟩
  obtain ⟨g, n, l, m, k, rfl, k0, k1, ⟨f, kk, tb, rows, ats, calls, table, X⟩, q⟩ := hF
  exact ⟨6, f, _, X.dict, X.fd, rfl, g.d, g.q, k, rfl, k0, k1, X.draw, fun v w' h0 h1 A hf => le_w (q v h0 h1 w' (GF.df hf) (X.drawn hf A).gw)⟩

theorem sc__law_register : FnScope ["_law_p"] ["_law_p"] (defScope (top 47)) := ⟨rfl, rfl, rfl, by decide +kernel, rfl, by decide +kernel, by decide +kernel⟩
def fReg : DSp := fun ds w P => ∃ g n l m, ds = [.ref g.p] ∧ GW w g n l m ∧ ∀ v, 1 ≤ v → v ≤ 8 → GP g w n l m fun w' => P (.int v) w'
theorem ok__law_register (T : Tx K mg) (k__law_some : Kp P w K mg base 2 "_law_some" ["_law_p", "_law_many"] fSome) : Kp P w K mg base 3 "_law_register" ["_law_p"] fReg := by
  have sc := sc__law_register
  obtain ⟨f, fd, hm, FD⟩ := T.has 36 (i := 47) (x := "_law_register") rfl
  refine kp_of FD hm sc (fun _ _ _ _ _ _ us hl => match us, hl with | [_], _ => rfl) fun cdv A outer s H E hr => ⟨_, (wss_one (ws_ret (we_add we_int (we_call (k__law_some.mono (by decide)) hr (wa_cons (we_var 0) (wa_cons we_int wa_nil)))))), fun ds wd Q hl hF => ?_⟩
  obtain ⟨g, n, l, m, rfl, W, q⟩ := hF
  exact ⟨rfl, g, n, l, m, 8, rfl, by decide, by decide, W, fun v h0 h1 w' hf W' => le_w (q (1 + v) (by omega) (by omega) w' hf W')⟩
end
end Rs
set_option maxHeartbeats 4000000
/-! The law's programs: single rows. -/
namespace Rs
open PySem PySem.Spec PyProof.Rows L2
theorem iokA {k : Nat} {a b c : Int} (h : k < 13) (a0 : 0 ≤ a) (a1 : a < 16) (b0 : 0 ≤ b) (b1 : b < 16) (c0 : 0 ≤ c) (c1 : c < 16) : InsOk ⟨k, a, b, c⟩ :=
  ⟨Nat.lt_trans h (by decide), a0, a1, Int.le_trans (by decide) b0, Int.lt_trans b1 (by decide), fun _ => ⟨b0, b1⟩, fun e => by have e' : k = 21 := e; omega, Int.le_trans (by decide) c0, Int.lt_trans c1 (by decide), fun _ => ⟨c0, c1⟩⟩
theorem iok3 {k : Nat} {a b c : Int} (h : 13 ≤ k) (h2 : k < 35) (h3 : k ≠ 21) (a0 : 0 ≤ a) (a1 : a < 16) (b0 : 0 ≤ b) (b1 : b < 16) (c0 : -16384 ≤ c) (c1 : c < 16384) : InsOk ⟨k, a, b, c⟩ :=
  ⟨Nat.lt_trans h2 (by decide), a0, a1, Int.le_trans (by decide) b0, Int.lt_trans b1 (by decide), fun _ => ⟨b0, b1⟩, fun e => absurd e h3, c0, c1, fun e => by have e' : k < 13 := e; omega⟩
theorem iokU {a b : Int} (a0 : 0 ≤ a) (a1 : a < 16) (b0 : 0 ≤ b) (b1 : b < 262144) : InsOk ⟨21, a, b, 0⟩ :=
  ⟨by show 21 < 38; decide, a0, a1, Int.le_trans (by decide) b0, b1, fun e => absurd (.inl rfl) e, fun _ => b0, by show (-16384 : Int) ≤ 0; decide, by show (0 : Int) < 16384; decide, fun e => absurd e (by show ¬ 21 < 13; decide)⟩
theorem iokJ {a b : Int} (a0 : 0 ≤ a) (a1 : a < 16) (b0 : -262144 ≤ b) (b1 : b < 262144) : InsOk ⟨33, a, b, 0⟩ :=
  ⟨by show 33 < 38; decide, a0, a1, b0, b1, fun e => absurd (.inr rfl) e, fun e => absurd e (by show ¬ 33 = 21; decide), by show (-16384 : Int) ≤ 0; decide, by show (0 : Int) < 16384; decide, fun e => absurd e (by show ¬ 33 < 13; decide)⟩
theorem iok1 {k : Nat} {a : Int} (h : 35 ≤ k) (h2 : k < 38) (a0 : 0 ≤ a) (a1 : a < 16) : InsOk ⟨k, a, 0, 0⟩ :=
  ⟨h2, a0, a1, by show (-262144 : Int) ≤ 0; decide, by show (0 : Int) < 262144; decide, fun _ => ⟨by show (0 : Int) ≤ 0; decide, by show (0 : Int) < 16; decide⟩, fun e => by have e' : k = 21 := e; omega, by show (-16384 : Int) ≤ 0; decide, by show (0 : Int) < 16384; decide, fun e => by have e' : k < 13 := e; omega⟩
theorem row_3 {m k : Nat} {a b c : Int} (h : k < 35) (h2 : k ≠ 21) (h3 : k ≠ 33) (o : InsOk ⟨k, a, b, c⟩) : RowOk m (.tup [.str (opS k), .int a, .int b, .int c]) := by
  have e : insD ⟨k, a, b, c⟩ = .tup [.str (opS k), .int a, .int b, .int c] := congrArg D.tup (insL_3 (i := ⟨k, a, b, c⟩) (by show ¬ 35 ≤ k; omega) (by show ¬ (k = 21 ∨ k = 33); omega))
  rw [← e]
  exact .ins _ o
theorem row_1 {m k : Nat} {a : Int} (h : 35 ≤ k) (o : InsOk ⟨k, a, 0, 0⟩) : RowOk m (.tup [.str (opS k), .int a]) := by
  have e : insD ⟨k, a, 0, 0⟩ = .tup [.str (opS k), .int a] := congrArg D.tup (insL_1 (i := ⟨k, a, 0, 0⟩) h)
  rw [← e]
  exact .ins _ o
section
variable {P : Program} {w : World} {K : PySem.W.Frag} {mg : Str → Option Value} {base : Heap}

theorem sc__law_set : FnScope ["_law_p", "_law_number", "_law_value", "_law_high"] ["_law_p", "_law_number", "_law_value"] (defScope (top 48)) := ⟨rfl, rfl, rfl, by decide +kernel, rfl, by decide +kernel, by decide +kernel⟩
def fSet : DSp := fun ds w P => ∃ g n l m a v, ds = [.ref g.p, .int a, .int v] ∧ 0 ≤ a ∧ a < 16 ∧ 0 ≤ v ∧ v < 4294950000 ∧ GW w g n l m ∧ n ≤ 1600 ∧ GP g w (n + 2) l m fun w' => P .non w'
theorem ok__law_set (T : Tx K mg) (k__law_put_word : Kp P w K mg base 1 "_law_put_word" ["_law_p", "_law_row"] fPut) : Kp P w K mg base 2 "_law_set" ["_law_p", "_law_number", "_law_value"] fSet := by
  have sc := sc__law_set
  obtain ⟨f, fd, hm, FD⟩ := T.has 37 (i := 48) (x := "_law_set") rfl
  refine kp_of FD hm sc (fun _ _ _ _ _ _ us hl => match us, hl with | [_, _, _], _ => rfl) fun cdv A outer s H E hr => ⟨_, (wss_cons (ws_set (i := 3) sc.nd (we_fdiv (we_add (we_var 2) we_int) we_int))
    (wss_cons (ws_expr (we_call (k__law_put_word.mono (by decide)) hr (wa_cons (we_var 0) (wa_cons (we_tup (wa_cons we_str (wa_cons (we_var 1) (wa_cons (we_var 3) wa_nil)))) wa_nil))))
    (wss_one (ws_expr (we_call (k__law_put_word.mono (by decide)) hr (wa_cons (we_var 0) (wa_cons (we_tup (wa_cons we_str (wa_cons (we_var 1) (wa_cons (we_var 1) (wa_cons (we_sub (we_var 2) (we_mul (we_var 3) we_int)) wa_nil))))) wa_nil))))))), fun ds wd Q hl hF => ?_⟩
  obtain ⟨g, n, l, m, a, v, rfl, a0, a1, v0, v1, W, hn, q⟩ := hF
  have r1 : RowOk m (.tup [.str "lui", .int a, .int ((v + 8192) / 16384)]) := .ins ⟨21, a, (v + 8192) / 16384, 0⟩ (iokU a0 a1 (by omega) (by omega))
  have r2 : RowOk m (.tup [.str "addi", .int a, .int a, .int (v - (v + 8192) / 16384 * 16384)]) := .ins ⟨13, a, a, v - (v + 8192) / 16384 * 16384⟩ (iok3 (by decide) (by decide) (by decide) a0 a1 a0 a1 (by omega) (by omega))
  exact ⟨wide_div (b := 33) (by decide) (by decide) (by decide) (by decide), sz rfl, rfl, g, n, l, m, _, rfl, r1, W, by omega, fun w1 f1 W1 => ⟨.inr ⟨by decide, by decide⟩, sz rfl, rfl, g, n + 1, l, m, _, rfl, r2, W1, by omega, fun w2 f2 W2 => le_w (q w2 (f1.trans f2) W2)⟩⟩

theorem sc__law_odd : FnScope ["_law_p", "_law_k"] ["_law_p"] (defScope (top 56)) := ⟨rfl, rfl, rfl, by decide +kernel, rfl, by decide +kernel, by decide +kernel⟩
def fRow1 : DSp := fun ds w P => ∃ g n l m, ds = [.ref g.p] ∧ GW w g n l m ∧ n ≤ 1600 ∧ GP g w (n + 1) l m fun w' => P .non w'
theorem ok__law_odd (T : Tx K mg) (k__law_some : Kp P w K mg base 2 "_law_some" ["_law_p", "_law_many"] fSome) (k__law_put_word : Kp P w K mg base 1 "_law_put_word" ["_law_p", "_law_row"] fPut) (k__law_register : Kp P w K mg base 3 "_law_register" ["_law_p"] fReg) : Kp P w K mg base 4 "_law_odd" ["_law_p"] fRow1 := by
  have sc := sc__law_odd
  obtain ⟨f, fd, hm, FD⟩ := T.has 45 (i := 56) (x := "_law_odd") rfl
  refine kp_of FD hm sc (fun _ _ _ _ _ _ us hl => match us, hl with | [_], _ => rfl) fun cdv A outer s H E hr => ⟨_, (wss_cons (ws_set (i := 1) sc.nd (we_call (k__law_some.mono (by decide)) hr (wa_cons (we_var 0) (wa_cons we_int wa_nil))))
    (wss_one (ws_if (wt_eq hr (we_var 1) we_int) (wss_one (ws_expr (we_call (k__law_put_word.mono (by decide)) hr (wa_cons (we_var 0) (wa_cons (we_tup (wa_cons we_str (wa_cons (we_ix (we_lst (wa_cons we_int (wa_cons (we_sub (we_pow we_int we_int) we_int) (wa_cons (we_add (we_pow we_int we_int) we_int) wa_nil)))) (we_call (k__law_some.mono (by decide)) hr (wa_cons (we_var 0) (wa_cons we_int wa_nil)))) wa_nil))) wa_nil))))) (wss_one (ws_if (wt_eq hr (we_var 1) we_int) (wss_one (ws_expr (we_call (k__law_put_word.mono (by decide)) hr (wa_cons (we_var 0) (wa_cons (we_tup (wa_cons we_str (wa_cons (we_ix (we_lst (wa_cons we_int (wa_cons we_int (wa_cons we_int wa_nil)))) (we_call (k__law_some.mono (by decide)) hr (wa_cons (we_var 0) (wa_cons we_int wa_nil)))) (wa_cons (we_call (k__law_register.mono (by decide)) hr (wa_cons (we_var 0) wa_nil)) (wa_cons (we_mul we_int (we_call (k__law_some.mono (by decide)) hr (wa_cons (we_var 0) (wa_cons we_int wa_nil)))) wa_nil))))) wa_nil))))) (wss_one (ws_if (wt_eq hr (we_var 1) we_int) (wss_one (ws_expr (we_call (k__law_put_word.mono (by decide)) hr (wa_cons (we_var 0) (wa_cons (we_tup (wa_cons we_str (wa_cons (we_call (k__law_register.mono (by decide)) hr (wa_cons (we_var 0) wa_nil)) wa_nil))) wa_nil))))) (wss_one (ws_expr (we_call (k__law_put_word.mono (by decide)) hr (wa_cons (we_var 0) (wa_cons (we_tup (wa_cons we_str (wa_cons (we_call (k__law_register.mono (by decide)) hr (wa_cons (we_var 0) wa_nil)) (wa_cons we_int wa_nil)))) wa_nil)))))))))))), fun ds wd Q hl hF => ?_⟩
  obtain ⟨g, n, l, m, rfl, W, hn, q⟩ := hF
  have pw : ∀ j : Int, 0 ≤ j → j ≤ 40 → CPow 2 j := fun j h0 h1 => cpow h0 (by omega) (by decide) (by decide)
  refine ⟨rfl, g, n, l, m, 4, rfl, by decide, by decide, W, fun kv k0 k1 w1 f1 W1 => ⟨fun _ => ?_, fun _ => ⟨fun _ => ?_, fun _ => ⟨fun _ => ?_, fun _ => ?_⟩⟩⟩⟩
  · refine ⟨pw 32 (by decide) (by decide), pw 26 (by decide) (by decide), sz rfl, fun a ha => ⟨rfl, g, n, l, m, 3, rfl, by decide, by decide, W1.mono (LE.new ha), fun v v0 v1 w2 f2 W2 => ?_⟩⟩
    have h2 := f2 a _ (W1.fresh ha) updW_same
    obtain ⟨c, hc, c0, c1⟩ := pick_int (ns := [0, 4294967295, 67108865]) (lo := 0) (hi := 4294967295) (by decide) v0 v1
    exact ⟨_, _, h2, hc, sz rfl, rfl, g, n, l, m, _, rfl, .word c ⟨c0, by omega⟩, W2, by omega, fun w3 f3 W3 => le_w (q w3 (f1.trans ((GF.le (LE.new ha)).trans (f2.trans f3))) W3)⟩
  · refine ⟨sz rfl, fun a ha => ⟨rfl, g, n, l, m, 3, rfl, by decide, by decide, W1.mono (LE.new ha), fun v v0 v1 w2 f2 W2 => ?_⟩⟩
    have h2 := f2 a _ (W1.fresh ha) updW_same
    obtain ⟨c, hc, c0, c1⟩ := pick_int (ns := [0, 15, 3]) (lo := 0) (hi := 15) (by decide) v0 v1
    refine ⟨_, _, h2, hc, rfl, g, n, l, m, rfl, W2, fun x x0 x1 w3 f3 W3 => ⟨rfl, g, n, l, m, 4, rfl, by decide, by decide, W3, fun y y0 y1 w4 f4 W4 => ⟨.inl ⟨by decide, by decide⟩, sz rfl, rfl, g, n, l, m, _, rfl, ?_, W4, by omega, fun w5 f5 W5 => le_w (q w5 (f1.trans ((GF.le (LE.new ha)).trans (f2.trans (f3.trans (f4.trans f5))))) W5)⟩⟩⟩
    exact row_3 (k := 34) (by decide) (by decide) (by decide) (iok3 (by decide) (by decide) (by decide) c0 (by omega) (by omega) (by omega) (by omega) (by omega))
  · exact ⟨rfl, g, n, l, m, rfl, W1, fun x x0 x1 w3 f3 W3 => ⟨sz rfl, rfl, g, n, l, m, _, rfl, row_1 (k := 37) (by decide) (iok1 (by decide) (by decide) (by omega) (by omega)), W3, by omega, fun w5 f5 W5 => le_w (q w5 (f1.trans (f3.trans f5)) W5)⟩⟩
  · exact ⟨rfl, g, n, l, m, rfl, W1, fun x x0 x1 w3 f3 W3 => ⟨sz rfl, rfl, g, n, l, m, _, rfl, .ins ⟨33, x, 1, 0⟩ (iokJ (by omega) (by omega) (by decide) (by decide)), W3, by omega, fun w5 f5 W5 => le_w (q w5 (f1.trans (f3.trans f5)) W5)⟩⟩

theorem sc__law_alu : FnScope ["_law_p", "_law_k", "_law_rd", "_law_ra", "_law_imm"] ["_law_p"] (defScope (top 49)) := ⟨rfl, rfl, rfl, by decide +kernel, rfl, by decide +kernel, by decide +kernel⟩
theorem ok__law_alu (T : Tx K mg) (k__law_some : Kp P w K mg base 2 "_law_some" ["_law_p", "_law_many"] fSome) (k__law_put_word : Kp P w K mg base 1 "_law_put_word" ["_law_p", "_law_row"] fPut) (k__law_register : Kp P w K mg base 3 "_law_register" ["_law_p"] fReg) (k__law_ops : Kp P w K mg base 1 "_law_ops" [] fLOps) : Kp P w K mg base 4 "_law_alu" ["_law_p"] fRow1 := by
  have sc := sc__law_alu
  obtain ⟨f, fd, hm, FD⟩ := T.has 38 (i := 49) (x := "_law_alu") rfl
  refine kp_of FD hm sc (fun _ _ _ _ _ _ us hl => match us, hl with | [_], _ => rfl) fun cdv A outer s H E hr => ⟨_, (wss_cons (ws_set (i := 1) sc.nd (we_call (k__law_some.mono (by decide)) hr (wa_cons (we_var 0) (wa_cons we_int wa_nil))))
    (wss_cut (ws_set (i := 2) sc.nd (we_if (wt_gt (we_call (k__law_some.mono (by decide)) hr (wa_cons (we_var 0) (wa_cons we_int wa_nil))) we_int) (we_call (k__law_register.mono (by decide)) hr (wa_cons (we_var 0) wa_nil)) we_int))
    (wss_cut (ws_set (i := 3) sc.nd (we_if (wt_gt (we_call (k__law_some.mono (by decide)) hr (wa_cons (we_var 0) (wa_cons we_int wa_nil))) we_int) (we_call (k__law_register.mono (by decide)) hr (wa_cons (we_var 0) wa_nil)) we_int))
    (wss_one (ws_if (wt_lt (we_var 1) we_int) (wss_one (ws_expr (we_call (k__law_put_word.mono (by decide)) hr (wa_cons (we_var 0) (wa_cons (we_tup (wa_cons (we_ix (we_call0 (k__law_ops.mono (by decide)) hr) (we_var 1)) (wa_cons (we_var 2) (wa_cons (we_var 3) (wa_cons (we_call (k__law_register.mono (by decide)) hr (wa_cons (we_var 0) wa_nil)) wa_nil))))) wa_nil))))) (wss_one (ws_if (wt_lt (we_var 1) we_int) (wss_cons (ws_set (i := 4) sc.nd (we_ix (we_lst (wa_cons we_int (wa_cons we_int (wa_cons (we_neg we_int) (wa_cons we_int (wa_cons we_int (wa_cons we_int (wa_cons we_int (wa_cons we_int (wa_cons (we_neg we_int) (wa_cons we_int wa_nil))))))))))) (we_call (k__law_some.mono (by decide)) hr (wa_cons (we_var 0) (wa_cons we_int wa_nil)))))
    (wss_one (ws_expr (we_call (k__law_put_word.mono (by decide)) hr (wa_cons (we_var 0) (wa_cons (we_tup (wa_cons (we_ix (we_call0 (k__law_ops.mono (by decide)) hr) (we_var 1)) (wa_cons (we_var 2) (wa_cons (we_var 3) (wa_cons (we_var 4) wa_nil))))) wa_nil)))))) (wss_one (ws_expr (we_call (k__law_put_word.mono (by decide)) hr (wa_cons (we_var 0) (wa_cons (we_tup (wa_cons we_str (wa_cons (we_var 2) (wa_cons (we_ix (we_lst (wa_cons we_int (wa_cons we_int (wa_cons (we_sub (we_pow we_int we_int) we_int) (wa_cons we_int wa_nil))))) (we_call (k__law_some.mono (by decide)) hr (wa_cons (we_var 0) (wa_cons we_int wa_nil)))) wa_nil)))) wa_nil)))))))))))), fun ds wd Q hl hF => ?_⟩
  obtain ⟨g, n, l, m, rfl, W, hn, q⟩ := hF
  have pw : ∀ j : Int, 0 ≤ j → j ≤ 40 → CPow 2 j := fun j h0 h1 => cpow h0 (by omega) (by decide) (by decide)
  refine ⟨rfl, g, n, l, m, 22, rfl, by decide, by decide, W, fun kv k0 k1 w1 f1 W1 => ?_⟩
  obtain ⟨k, rfl⟩ := Int.eq_ofNat_of_zero_le k0
  have hk : k < 22 := by omega
  refine ⟨fun ρ w' => ∃ rd, ρ = [some (.ref g.p), some (.int (k : Nat)), some (.int rd), none, none] ∧ 0 ≤ rd ∧ rd < 16 ∧ GF g wd w' ∧ GW w' g n l m, ?_, ?_⟩
  · refine ⟨rfl, g, n, l, m, 9, rfl, by decide, by decide, W1, fun v v0 v1 w2 f2 W2 => ⟨fun _ => ⟨rfl, g, n, l, m, rfl, W2, fun x x0 x1 w3 f3 W3 => ⟨x, rfl, by omega, by omega, f1.trans (f2.trans f3), W3⟩⟩, fun _ => ⟨0, rfl, by decide, by decide, f1.trans f2, W2⟩⟩⟩
  · rintro ρ w1 ⟨rd, rfl, rd0, rd1, f1, W1⟩
    refine ⟨fun ρ w' => ∃ ra, ρ = [some (.ref g.p), some (.int (k : Nat)), some (.int rd), some (.int ra), none] ∧ 0 ≤ ra ∧ ra < 16 ∧ GF g wd w' ∧ GW w' g n l m, ?_, ?_⟩
    · refine ⟨rfl, g, n, l, m, 7, rfl, by decide, by decide, W1, fun v v0 v1 w2 f2 W2 => ⟨fun _ => ⟨rfl, g, n, l, m, rfl, W2, fun x x0 x1 w3 f3 W3 => ⟨x, rfl, by omega, by omega, f1.trans (f2.trans f3), W3⟩⟩, fun _ => ⟨0, rfl, by decide, by decide, f1.trans f2, W2⟩⟩⟩
    · rintro ρ w1 ⟨ra, rfl, ra0, ra1, f1, W1⟩
      refine ⟨fun h => ?_, fun h => ⟨fun h2 => ?_, fun h2 => ?_⟩⟩
      · have h13 : k < 13 := by have := of_decide_eq_true h; omega
        exact ⟨rfl, rfl, fun a ha => ⟨_, _, updW_same, atI_ops (by omega), rfl, g, n, l, m, rfl, W1.mono (LE.new ha), fun x x0 x1 w2 f2 W2 => ⟨sz rfl, rfl, g, n, l, m, _, rfl, row_3 (by omega) (by omega) (by omega) (iokA h13 rd0 rd1 ra0 ra1 (by omega) (by omega)), W2, by omega, fun w3 f3 W3 => le_w (q w3 (f1.trans ((GF.le (LE.new ha)).trans (f2.trans f3))) W3)⟩⟩⟩
      · have h13 : ¬ k < 13 := by have := of_decide_eq_false h; omega
        have h21 : k < 21 := by have := of_decide_eq_true h2; omega
        refine ⟨sz rfl, fun a ha => ⟨rfl, g, n, l, m, 10, rfl, by decide, by decide, W1.mono (LE.new ha), fun v v0 v1 w2 f2 W2 => ?_⟩⟩
        have h2 := f2 a _ (W1.fresh ha) updW_same
        obtain ⟨c, hc, c0, c1⟩ := pick_int (ns := [0, 1, -1, 2, 4, 7, 31, 8191, -8192, 255]) (lo := -8192) (hi := 8191) (by decide) v0 v1
        exact ⟨_, _, h2, hc, rfl, rfl, fun b hb => ⟨_, _, updW_same, atI_ops (by omega), sz rfl, rfl, g, n, l, m, _, rfl, row_3 (by omega) (by omega) (by omega) (iok3 (by omega) (by omega) (by omega) rd0 rd1 ra0 ra1 (by omega) (by omega)), W2.mono (LE.new hb), by omega, fun w3 f3 W3 => le_w (q w3 (f1.trans ((GF.le (LE.new ha)).trans (f2.trans ((GF.le (LE.new hb)).trans f3)))) W3)⟩⟩
      · refine ⟨pw 18 (by decide) (by decide), sz rfl, fun a ha => ⟨rfl, g, n, l, m, 4, rfl, by decide, by decide, W1.mono (LE.new ha), fun v v0 v1 w2 f2 W2 => ?_⟩⟩
        have h2 := f2 a _ (W1.fresh ha) updW_same
        obtain ⟨c, hc, c0, c1⟩ := pick_int (ns := [0, 1, 262143, 77]) (lo := 0) (hi := 262143) (by decide) v0 v1
        exact ⟨_, _, h2, hc, sz rfl, rfl, g, n, l, m, _, rfl, .ins ⟨21, rd, c, 0⟩ (iokU rd0 rd1 c0 (by omega)), W2, by omega, fun w3 f3 W3 => le_w (q w3 (f1.trans ((GF.le (LE.new ha)).trans (f2.trans f3))) W3)⟩

theorem sc__law_memory : FnScope ["_law_p", "_law_k", "_law_size", "_law_offset", "_law_base", "_law_word_here"] ["_law_p"] (defScope (top 50)) := ⟨rfl, rfl, rfl, by decide +kernel, rfl, by decide +kernel, by decide +kernel⟩
theorem ok__law_memory (T : Tx K mg) (k__law_some : Kp P w K mg base 2 "_law_some" ["_law_p", "_law_many"] fSome) (k__law_put_word : Kp P w K mg base 1 "_law_put_word" ["_law_p", "_law_row"] fPut) (k__law_register : Kp P w K mg base 3 "_law_register" ["_law_p"] fReg) : Kp P w K mg base 4 "_law_memory" ["_law_p"] fRow1 := by
  have sc := sc__law_memory
  obtain ⟨f, fd, hm, FD⟩ := T.has 39 (i := 50) (x := "_law_memory") rfl
  refine kp_of FD hm sc (fun _ _ _ _ _ _ us hl => match us, hl with | [_], _ => rfl) fun cdv A outer s H E hr => ⟨_, (wss_cons (ws_set (i := 1) sc.nd (we_call (k__law_some.mono (by decide)) hr (wa_cons (we_var 0) (wa_cons we_int wa_nil))))
    (wss_cons (ws_set (i := 2) sc.nd (we_call (k__law_some.mono (by decide)) hr (wa_cons (we_var 0) (wa_cons we_int wa_nil))))
    (wss_cons (ws_set (i := 3) sc.nd (we_mul we_int (we_call (k__law_some.mono (by decide)) hr (wa_cons (we_var 0) (wa_cons we_int wa_nil)))))
    (wss_cut (ws_if (wt_gt (we_var 2) we_int) (wss_one (ws_set (i := 3) sc.nd (we_call (k__law_some.mono (by decide)) hr (wa_cons (we_var 0) (wa_cons we_int wa_nil))))) wss_nil)
    (wss_cons (ws_set (i := 4) sc.nd we_int)
    (wss_cut (ws_if (wt_gt (we_var 1) we_int) (wss_cons (ws_set (i := 4) sc.nd we_int)
    (wss_one (ws_set (i := 3) sc.nd (we_mod (we_intOf (T.fre 4 rfl) (wa_cons (we_var 3) wa_nil)) we_int)))) wss_nil)
    (wss_cut (ws_if (wt_eq hr (we_var 1) we_int) (wss_one (ws_set (i := 4) sc.nd (we_call (k__law_register.mono (by decide)) hr (wa_cons (we_var 0) wa_nil)))) wss_nil)
    (wss_cut (ws_if (wt_gt (we_var 2) we_int) (wss_one (ws_set (i := 5) sc.nd (we_ix (we_lst (wa_cons we_str (wa_cons we_str (wa_cons we_str wa_nil)))) (we_call (k__law_some.mono (by decide)) hr (wa_cons (we_var 0) (wa_cons we_int wa_nil)))))) (wss_one (ws_set (i := 5) sc.nd (we_ix (we_lst (wa_cons we_str (wa_cons we_str wa_nil))) (we_call (k__law_some.mono (by decide)) hr (wa_cons (we_var 0) (wa_cons we_int wa_nil)))))))
    (wss_cut (ws_if (PW.pt (ww_and (wt_eq hr (we_var 4) we_int) (ww_and (wt_inL (we_var 5) (wa_cons we_str (wa_cons we_str wa_nil))) (ww_and1 (wt_gt (we_call (k__law_some.mono (by decide)) hr (wa_cons (we_var 0) (wa_cons we_int wa_nil))) we_int))))) (wss_one (ws_set (i := 5) sc.nd we_str)) wss_nil)
    (wss_cut (ws_if (PW.pt (ww_and (wt_eq hr (we_var 4) we_int) (ww_and1 (wt_eq hr (we_var 5) we_str)))) (wss_one (ws_set (i := 3) sc.nd (we_mul (we_fdiv (we_var 3) we_int) we_int))) wss_nil)
    (wss_one (ws_expr (we_call (k__law_put_word.mono (by decide)) hr (wa_cons (we_var 0) (wa_cons (we_tup (wa_cons (we_var 5) (wa_cons (we_call (k__law_register.mono (by decide)) hr (wa_cons (we_var 0) wa_nil)) (wa_cons (we_var 4) (wa_cons (we_var 3) wa_nil))))) wa_nil))))))))))))))), fun ds wd Q hl hF => ?_⟩
  obtain ⟨g, n, l, m, rfl, W, hn, q⟩ := hF
  have d4 : ∀ i : Int, CDivW i 4 := fun i => wide_div (b := 33) (by decide) (by decide) (by decide) (by decide)
  refine ⟨rfl, g, n, l, m, 16, rfl, by decide, by decide, W, fun kv k0 k1 w1 f1 W1 => ⟨rfl, g, n, l, m, 5, rfl, by decide, by decide, W1, fun sv s0 s1 w2 f2 W2 => ⟨rfl, g, n, l, m, 6, rfl, by decide, by decide, W2, fun ov o0 o1 w3 f3 W3 => ⟨.inl ⟨by decide, by decide⟩, ?_⟩⟩⟩⟩
  have f3' := f1.trans (f2.trans f3)
  refine ⟨fun ρ w' => ∃ o, ρ = [some (.ref g.p), some (.int kv), some (.int sv), some (.int o), none, none] ∧ 0 ≤ o ∧ o ≤ 24 ∧ GF g wd w' ∧ GW w' g n l m, ⟨fun _ => ⟨rfl, g, n, l, m, 24, rfl, by decide, by decide, W3, fun v v0 v1 w4 f4 W4 => ⟨v, rfl, v0, by omega, f3'.trans f4, W4⟩⟩, fun _ => ⟨4 * ov, rfl, by omega, by omega, f3', W3⟩⟩, ?_⟩
  rintro ρ w1 ⟨o, rfl, o0, o1, f1, W1⟩
  refine ⟨fun ρ w' => ∃ o b, ρ = [some (.ref g.p), some (.int kv), some (.int sv), some (.int o), some (.int b), none] ∧ 0 ≤ o ∧ o ≤ 24 ∧ 0 ≤ b ∧ b < 16 ∧ GF g wd w' ∧ GW w' g n l m, ⟨fun _ => ⟨(by decide : (0 : Int) < 8), o % 8, 11, rfl, by omega, by omega, by decide, by decide, f1, W1⟩, fun _ => ⟨o, 10, rfl, o0, o1, by decide, by decide, f1, W1⟩⟩, ?_⟩
  rintro ρ w1 ⟨o, b, rfl, o0, o1, b0, b1, f1, W1⟩
  refine ⟨fun ρ w' => ∃ o b, ρ = [some (.ref g.p), some (.int kv), some (.int sv), some (.int o), some (.int b), none] ∧ 0 ≤ o ∧ o ≤ 24 ∧ 0 ≤ b ∧ b < 16 ∧ GF g wd w' ∧ GW w' g n l m, ⟨fun _ => ⟨rfl, g, n, l, m, rfl, W1, fun x x0 x1 w2 f2 W2 => ⟨o, x, rfl, o0, o1, by omega, by omega, f1.trans f2, W2⟩⟩, fun _ => ⟨o, b, rfl, o0, o1, b0, b1, f1, W1⟩⟩, ?_⟩
  rintro ρ w1 ⟨o, b, rfl, o0, o1, b0, b1, f1, W1⟩
  let M : DEnv → Wd → Prop := fun ρ w' => ∃ o b k, ρ = [some (.ref g.p), some (.int kv), some (.int sv), some (.int o), some (.int b), some (.str (opS k))] ∧ 0 ≤ o ∧ o ≤ 24 ∧ 0 ≤ b ∧ b < 16 ∧ 22 ≤ k ∧ k ≤ 26 ∧ GF g wd w' ∧ GW w' g n l m
  refine ⟨M, ⟨fun _ => ⟨sz rfl, fun a ha => ⟨rfl, g, n, l, m, 3, rfl, by decide, by decide, W1.mono (LE.new ha), fun v v0 v1 w2 f2 W2 => ?_⟩⟩, fun _ => ⟨sz rfl, fun a ha => ⟨rfl, g, n, l, m, 2, rfl, by decide, by decide, W1.mono (LE.new ha), fun v v0 v1 w2 f2 W2 => ?_⟩⟩⟩, ?_⟩
  · have h2 := f2 a _ (W1.fresh ha) updW_same
    obtain ⟨k, hk, hat⟩ := pick_op (ks := [23, 24, 26]) v0 v1
    have hk2 : ∀ k ∈ [23, 24, 26], 22 ≤ k ∧ k ≤ 26 := by decide
    obtain ⟨c0, c1⟩ := hk2 k hk
    exact ⟨_, _, h2, hat, o, b, k, rfl, o0, o1, b0, b1, c0, c1, f1.trans ((GF.le (LE.new ha)).trans f2), W2⟩
  · have h2 := f2 a _ (W1.fresh ha) updW_same
    obtain ⟨k, hk, hat⟩ := pick_op (ks := [22, 25]) v0 v1
    have hk2 : ∀ k ∈ [22, 25], 22 ≤ k ∧ k ≤ 26 := by decide
    obtain ⟨c0, c1⟩ := hk2 k hk
    exact ⟨_, _, h2, hat, o, b, k, rfl, o0, o1, b0, b1, c0, c1, f1.trans ((GF.le (LE.new ha)).trans f2), W2⟩
  · rintro ρ w1 ⟨o, b, k, rfl, o0, o1, b0, b1, c0, c1, f1, W1⟩
    refine ⟨M, ⟨fun _ => ⟨sz rfl, rfl, fun _ => ⟨rfl, g, n, l, m, 4, rfl, by decide, by decide, W1, fun v v0 v1 w2 f2 W2 => ⟨fun _ => ⟨o, b, 24, rfl, o0, o1, b0, b1, by decide, by decide, f1.trans f2, W2⟩, fun _ => ⟨o, b, k, rfl, o0, o1, b0, b1, c0, c1, f1.trans f2, W2⟩⟩⟩, fun _ => ⟨fun z => absurd (show false = true from z) (by decide), fun _ => ⟨o, b, k, rfl, o0, o1, b0, b1, c0, c1, f1, W1⟩⟩⟩, fun _ => ⟨fun z => absurd (show false = true from z) (by decide), fun _ => ⟨o, b, k, rfl, o0, o1, b0, b1, c0, c1, f1, W1⟩⟩⟩, ?_⟩
    rintro ρ w1 ⟨o, b, k, rfl, o0, o1, b0, b1, c0, c1, f1, W1⟩
    refine ⟨M, ⟨fun _ => ⟨fun _ => ⟨d4 _, .inr ⟨by decide, by decide⟩, o / 4 * 4, b, k, rfl, by omega, by omega, b0, b1, c0, c1, f1, W1⟩, fun _ => ⟨o, b, k, rfl, o0, o1, b0, b1, c0, c1, f1, W1⟩⟩, fun _ => ⟨fun z => absurd (show false = true from z) (by decide), fun _ => ⟨o, b, k, rfl, o0, o1, b0, b1, c0, c1, f1, W1⟩⟩⟩, ?_⟩
    rintro ρ w1 ⟨o, b, k, rfl, o0, o1, b0, b1, c0, c1, f1, W1⟩
    exact ⟨rfl, g, n, l, m, rfl, W1, fun x x0 x1 w2 f2 W2 => ⟨sz rfl, rfl, g, n, l, m, _, rfl, row_3 (by omega) (by omega) (by omega) (iok3 (by omega) (by omega) (by omega) (by omega) (by omega) b0 b1 (by omega) (by omega)), W2, by omega, fun w3 f3 W3 => le_w (q w3 (f1.trans (f2.trans f3)) W3)⟩⟩
end
end Rs
set_option maxHeartbeats 4000000
/-! The law's programs: blocks. -/
namespace Rs
open PySem PySem.Spec PyProof.Rows L2
section
variable {w w' : Wd} {g : GA} {n l m : Nat}
theorem GW.left (h : GW w g n l m) : ∃ f, w g.p = some (.dct 6 f) ∧ f "left" = some (.int (l : Nat)) ∧ (f "left").isSome = true ∧ ∀ l2 : Nat, GW (updW w g.p (.dct 6 (putF f "left" (.int (l2 : Nat))))) g n l2 m := by
  obtain ⟨f, k, tb, rows, ats, calls, table, X⟩ := h
  refine ⟨f, X.dict, X.fl, by rw [X.fl]; rfl, fun l2 => (X.dct (f' := putF f "left" (.int (l2 : Nat))) (n' := n) ⟨(pf_ne (by decide)).trans X.fd, (pf_ne (by decide)).trans X.fc, (pf_ne (by decide)).trans X.ft, (pf_ne (by decide)).trans X.fk, (pf_ne (by decide)).trans X.fb, pf_same⟩ X.calls X.table X.kn X.bn X.l4 X.co X.to (Nat.le_refl n) X.l3).gw⟩
theorem GW.tabled (h : GW w g n l m) : ∃ f tb table, w g.p = some (.dct 6 f) ∧ f "table" = some (.ref tb) ∧ w tb = some (.lst (natsD table)) ∧ table.length ≤ n ∧ (f "table").isSome = true ∧
    ∀ (w' : Wd) (a : Addr) (x y : Nat), LE w w' → w' a = some (.lst (natsD (table ++ [x, y]))) → a ∉ g.mut → x < m → y < m → GW (updW w' g.p (.dct 6 (putF f "table" (.ref a)))) g (n + 2) l m := by
  obtain ⟨f, k, tb, rows, ats, calls, table, X⟩ := h
  refine ⟨f, tb, table, X.dict, X.fb, X.table, X.l3, by rw [X.fb]; rfl, fun w' a x y le ha hm hx hy => ?_⟩
  have X2 := X.mono le
  refine (X2.dct (f' := putF f "table" (.ref a)) (n' := n + 2) ⟨(pf_ne (by decide)).trans X.fd, (pf_ne (by decide)).trans X.fc, (pf_ne (by decide)).trans X.ft, (pf_ne (by decide)).trans X.fk, pf_same, (pf_ne (by decide)).trans X.fl⟩ X2.calls ha X.kn hm X.l4 X.co ?_ (by omega) ?_).gw
  · intro z hz
    rcases List.mem_append.mp hz with h1 | h1
    · exact X.to z h1
    · rcases List.mem_cons.mp h1 with rfl | h1
      · exact hx
      · rw [List.mem_singleton.mp h1]; exact hy
  · rw [List.length_append]
    exact Nat.add_le_add_right X.l3 2
theorem GW.callsd (h : GW w g n l m) : ∃ f k calls, w g.p = some (.dct 6 f) ∧ f "calls" = some (.ref k) ∧ w k = some (.lst (natsD calls)) ∧ k ∉ g.mut ∧ calls.length ≤ 10 ∧ ∀ x ∈ calls, x < m := by
  obtain ⟨f, k, tb, rows, ats, calls, table, X⟩ := h
  exact ⟨f, k, calls, X.dict, X.fk, X.calls, X.kn, X.l4, X.co⟩
end
theorem pick_nat {ns : List Nat} {v : Int} (h0 : 0 ≤ v) (h1 : v < ((ns.length : Nat) : Int)) : ∃ c, c ∈ ns ∧ atI (natsD ns) v = some (.int (c : Nat)) := by
  obtain ⟨j, rfl⟩ := Int.eq_ofNat_of_zero_le h0
  have hj : j < ns.length := by omega
  exact ⟨_, List.getElem_mem hj, atI_map (f := fun x : Nat => D.int (x : Int)) (List.getElem?_eq_getElem hj)⟩
def fNo : DSp := fun _ _ _ => False
theorem wss_no {X : Cx} {b : List Stmt} : WSs X b (fun _ _ _ => False) := ⟨fun _ _ _ _ _ _ ⟨_, _, _, _, _, h, _⟩ => h.elim⟩
section
variable {P : Program} {w : World} {K : PySem.W.Frag} {mg : Str → Option Value} {base : Heap}
def fItem (dd : Nat) : DSp := fun ds w P => ∃ d g n l m, d ≤ dd ∧ 1 ≤ d ∧ ds = [.ref g.p, .int (d : Nat)] ∧ GW w g n l m ∧ n + 12 * l + 12 ≤ 1500 ∧ After g w n l m 12 fun w' => P .non w'
def fRows (dd : Nat) : DSp := fun ds w P => ∃ d g n l m, d ≤ dd ∧ ds = [.ref g.p, .int (d : Nat)] ∧ GW w g n l m ∧ n + 12 * l ≤ 1500 ∧ After g w n l m 0 fun w' => P .non w'

theorem sc__law_if : FnScope ["_law_p", "_law_depth", "_law_word_here", "_law_rb", "_law_other", "_law_last"] ["_law_p", "_law_depth"] (defScope (top 51)) := ⟨rfl, rfl, rfl, by decide +kernel, rfl, by decide +kernel, by decide +kernel⟩
theorem sc__law_loop : FnScope ["_law_p", "_law_depth", "_law_counter", "_law_top"] ["_law_p", "_law_depth"] (defScope (top 52)) := ⟨rfl, rfl, rfl, by decide +kernel, rfl, by decide +kernel, by decide +kernel⟩
theorem sc__law_switch : FnScope ["_law_p", "_law_depth", "_law_first", "_law_second", "_law_last", "_law_index"] ["_law_p", "_law_depth"] (defScope (top 54)) := ⟨rfl, rfl, rfl, by decide +kernel, rfl, by decide +kernel, by decide +kernel⟩
theorem sc__law_rows : FnScope ["_law_p", "_law_depth", "_law_k", "_law_what"] ["_law_p", "_law_depth"] (defScope (top 55)) := ⟨rfl, rfl, rfl, by decide +kernel, rfl, by decide +kernel, by decide +kernel⟩
theorem no__law_if (T : Tx K mg) : Kp P w K mg base 1 "_law_if" ["_law_p", "_law_depth"] (fItem 0) := by
  have sc := sc__law_if
  obtain ⟨f, fd, hm, FD⟩ := T.has 40 (i := 51) (x := "_law_if") rfl
  exact kp_of FD hm sc (fun _ _ _ _ _ _ us hl => match us, hl with | [_, _], _ => rfl) fun cdv A outer s H E hr => ⟨_, wss_no, fun ds wd Q hl ⟨_, _, _, _, _, h0, h1, _⟩ => absurd (Nat.le_trans h1 h0) (by decide)⟩
theorem no__law_loop (T : Tx K mg) : Kp P w K mg base 1 "_law_loop" ["_law_p", "_law_depth"] (fItem 0) := by
  have sc := sc__law_loop
  obtain ⟨f, fd, hm, FD⟩ := T.has 41 (i := 52) (x := "_law_loop") rfl
  exact kp_of FD hm sc (fun _ _ _ _ _ _ us hl => match us, hl with | [_, _], _ => rfl) fun cdv A outer s H E hr => ⟨_, wss_no, fun ds wd Q hl ⟨_, _, _, _, _, h0, h1, _⟩ => absurd (Nat.le_trans h1 h0) (by decide)⟩
theorem no__law_switch (T : Tx K mg) : Kp P w K mg base 1 "_law_switch" ["_law_p", "_law_depth"] (fItem 0) := by
  have sc := sc__law_switch
  obtain ⟨f, fd, hm, FD⟩ := T.has 43 (i := 54) (x := "_law_switch") rfl
  exact kp_of FD hm sc (fun _ _ _ _ _ _ us hl => match us, hl with | [_, _], _ => rfl) fun cdv A outer s H E hr => ⟨_, wss_no, fun ds wd Q hl ⟨_, _, _, _, _, h0, h1, _⟩ => absurd (Nat.le_trans h1 h0) (by decide)⟩

theorem sc__law_call : FnScope ["_law_p"] ["_law_p"] (defScope (top 53)) := ⟨rfl, rfl, rfl, by decide +kernel, rfl, by decide +kernel, by decide +kernel⟩
theorem ok__law_call (T : Tx K mg) (k__law_alu : Kp P w K mg base 4 "_law_alu" ["_law_p"] fRow1) (k__law_some : Kp P w K mg base 2 "_law_some" ["_law_p", "_law_many"] fSome) (k__law_put_word : Kp P w K mg base 1 "_law_put_word" ["_law_p", "_law_row"] fPut) : Kp P w K mg base 5 "_law_call" ["_law_p"] fRow1 := by
  have sc := sc__law_call
  obtain ⟨f, fd, hm, FD⟩ := T.has 42 (i := 53) (x := "_law_call") rfl
  refine kp_of FD hm sc (fun _ _ _ _ _ _ us hl => match us, hl with | [_], _ => rfl) fun cdv A outer s H E hr => ⟨_, (wss_one (ws_if (wt_eq hr (we_len (T.fre 0 rfl) (wa_cons (we_get hr (we_var 0)) wa_nil)) we_int) (wss_one (ws_expr (we_call (k__law_alu.mono (by decide)) hr (wa_cons (we_var 0) wa_nil)))) (wss_one (ws_expr (we_call (k__law_put_word.mono (by decide)) hr (wa_cons (we_var 0) (wa_cons (we_tup (wa_cons we_str (wa_cons we_int (wa_cons (we_tup (wa_cons we_str (wa_cons (we_ix (we_get hr (we_var 0)) (we_call (k__law_some.mono (by decide)) hr (wa_cons (we_var 0) (wa_cons (we_len (T.fre 0 rfl) (wa_cons (we_get hr (we_var 0)) wa_nil)) wa_nil)))) wa_nil))) wa_nil)))) wa_nil))))))), fun ds wd Q hl hF => ?_⟩
  obtain ⟨g, n, l, m, rfl, W, hn, q⟩ := hF
  obtain ⟨f, k, calls, c1, c2, c3, c4, c5, c6⟩ := W.callsd
  refine ⟨6, f, _, c1, c2, _, c3, fun h => ?_, fun h => ?_⟩
  · exact ⟨rfl, g, n, l, m, rfl, W, hn, fun w1 f1 W1 => le_w (q w1 f1 W1)⟩
  · have hl : ((natsD calls).length : Int) = (calls.length : Int) := by unfold natsD; rw [List.length_map]
    have h' := of_decide_eq_false h
    have h2 : ¬ (calls.length : Int) = 0 := by rw [← hl]; exact h'
    refine ⟨6, f, _, c1, c2, 6, f, _, c1, c2, _, c3, rfl, g, n, l, m, _, rfl, by rw [hl]; omega, by rw [hl]; omega, W, fun v v0 v1 w1 f1 W1 => ?_⟩
    obtain ⟨c, hc, hat⟩ := pick_nat v0 (by rw [← hl]; exact v1)
    exact ⟨_, _, f1 k _ c4 c3, hat, sz rfl, sz rfl, rfl, g, n, l, m, _, rfl, .jal 15 c (by decide) (by decide) (c6 c hc), W1, by omega, fun w2 f2 W2 => le_w (q w2 (f1.trans f2) W2)⟩

theorem ok__law_if {lv dd : Nat} (hlv : 3 ≤ lv) (T : Tx K mg) (k__law_some : Kp P w K mg base 2 "_law_some" ["_law_p", "_law_many"] fSome) (k__law_put_word : Kp P w K mg base 1 "_law_put_word" ["_law_p", "_law_row"] fPut) (k__law_register : Kp P w K mg base 3 "_law_register" ["_law_p"] fReg)
    (k__law_label : Kp P w K mg base 1 "_law_label" ["_law_p"] fLabel) (k__law_here : Kp P w K mg base 1 "_law_here" ["_law_p", "_law_label_here"] fHere) (k__law_rows : Kp P w K mg base lv "_law_rows" ["_law_p", "_law_depth"] (fRows (dd - 1))) : Kp P w K mg base (lv + 1) "_law_if" ["_law_p", "_law_depth"] (fItem dd) := by
  have sc := sc__law_if
  obtain ⟨f, fd, hm, FD⟩ := T.has 40 (i := 51) (x := "_law_if") rfl
  refine kp_of FD hm sc (fun _ _ _ _ _ _ us hl => match us, hl with | [_, _], _ => rfl) fun cdv A outer s H E hr => ⟨_, (wss_cons (ws_set (i := 2) sc.nd (we_ix (we_lst (wa_cons we_str (wa_cons we_str (wa_cons we_str (wa_cons we_str (wa_cons we_str (wa_cons we_str wa_nil))))))) (we_call (k__law_some.mono (by omega)) hr (wa_cons (we_var 0) (wa_cons we_int wa_nil)))))
    (wss_cut (ws_set (i := 3) sc.nd (we_if (wt_gt (we_call (k__law_some.mono (by omega)) hr (wa_cons (we_var 0) (wa_cons we_int wa_nil))) we_int) (we_call (k__law_register.mono (by omega)) hr (wa_cons (we_var 0) wa_nil)) we_int))
    (wss_cons (ws_set (i := 4) sc.nd (we_call (k__law_label.mono (by omega)) hr (wa_cons (we_var 0) wa_nil)))
    (wss_cons (ws_set (i := 5) sc.nd (we_call (k__law_label.mono (by omega)) hr (wa_cons (we_var 0) wa_nil)))
    (wss_cons (ws_expr (we_call (k__law_put_word.mono (by omega)) hr (wa_cons (we_var 0) (wa_cons (we_tup (wa_cons (we_var 2) (wa_cons (we_call (k__law_register.mono (by omega)) hr (wa_cons (we_var 0) wa_nil)) (wa_cons (we_var 3) (wa_cons (we_tup (wa_cons we_str (wa_cons (we_var 4) wa_nil))) wa_nil))))) wa_nil))))
    (wss_cons (ws_expr (we_call (k__law_rows.mono (by omega)) hr (wa_cons (we_var 0) (wa_cons (we_sub (we_var 1) we_int) wa_nil))))
    (wss_cut (ws_if (wt_eq hr (we_call (k__law_some.mono (by omega)) hr (wa_cons (we_var 0) (wa_cons we_int wa_nil))) we_int) (wss_cons (ws_expr (we_call (k__law_put_word.mono (by omega)) hr (wa_cons (we_var 0) (wa_cons (we_tup (wa_cons we_str (wa_cons we_int (wa_cons (we_tup (wa_cons we_str (wa_cons (we_var 5) wa_nil))) wa_nil)))) wa_nil))))
    (wss_cons (ws_expr (we_call (k__law_here.mono (by omega)) hr (wa_cons (we_var 0) (wa_cons (we_var 4) wa_nil))))
    (wss_one (ws_expr (we_call (k__law_rows.mono (by omega)) hr (wa_cons (we_var 0) (wa_cons (we_sub (we_var 1) we_int) wa_nil))))))) (wss_one (ws_expr (we_call (k__law_here.mono (by omega)) hr (wa_cons (we_var 0) (wa_cons (we_var 4) wa_nil))))))
    (wss_one (ws_expr (we_call (k__law_here.mono (by omega)) hr (wa_cons (we_var 0) (wa_cons (we_var 5) wa_nil)))))))))))), fun ds wd Q hl hF => ?_⟩
  obtain ⟨d, g, n, l, m, hdd, hd0, rfl, W, hn, q⟩ := hF
  have hd1 : ((d : Nat) : Int) - 1 = ((d - 1 : Nat) : Int) := by omega
  refine ⟨sz rfl, fun a ha => ⟨rfl, g, n, l, m, 6, rfl, by decide, by decide, W.mono (LE.new ha), fun v v0 v1 w1 f1 W1 => ?_⟩⟩
  have h1 := f1 a _ (W.fresh ha) updW_same
  have fa := (GF.le (g := g) (LE.new (o := .lst [.str "beq", .str "bne", .str "blt", .str "bge", .str "bltu", .str "bgeu"]) ha)).trans f1
  obtain ⟨k, hk, hat⟩ := pick_op (ks := [27, 28, 29, 30, 31, 32]) v0 v1
  have hk2 : ∀ k ∈ [27, 28, 29, 30, 31, 32], 27 ≤ k ∧ k < 33 := by decide
  obtain ⟨kk0, kk1⟩ := hk2 k hk
  refine ⟨_, _, h1, hat, fun ρ w' => ∃ rb, ρ = [some (.ref g.p), some (.int (d : Nat)), some (.str (opS k)), some (.int rb), none, none] ∧ 0 ≤ rb ∧ rb < 16 ∧ GF g wd w' ∧ GW w' g n l m, ?_, ?_⟩
  · exact ⟨rfl, g, n, l, m, 3, rfl, by decide, by decide, W1, fun v v0 v1 w2 f2 W2 => ⟨fun _ => ⟨rfl, g, n, l, m, rfl, W2, fun x x0 x1 w3 f3 W3 => ⟨x, rfl, by omega, by omega, fa.trans (f2.trans f3), W3⟩⟩, fun _ => ⟨0, rfl, by decide, by decide, fa.trans f2, W2⟩⟩⟩
  · rintro ρ w1 ⟨rb, rfl, rb0, rb1, f1, W1⟩
    refine ⟨rfl, g, n, l, m, rfl, W1, by omega, fun w2 f2 W2 => ⟨rfl, g, n + 1, l, m + 1, rfl, W2, by omega, fun w3 f3 W3 => ⟨rfl, g, n + 2, l, m + 2, rfl, W3, fun x x0 x1 w4 f4 W4 => ⟨sz rfl, sz rfl, rfl, g, n + 2, l, m + 2, _, rfl, .br k x rb m kk0 kk1 (by omega) (by omega) rb0 rb1 (by omega), W4, by omega, fun w5 f5 W5 => ?_⟩⟩⟩⟩
    have f5' := f1.trans (f2.trans (f3.trans (f4.trans f5)))
    refine ⟨rfl, d - 1, g, n + 3, l, m + 2, by omega, by rw [← hd1], W5, by omega, fun w6 n6 l6 m6 f6 W6 hm6 hl6 hp6 => ?_⟩
    refine ⟨fun ρ w' => ∃ n7 l7 m7 x y, ρ = [some (.ref g.p), x, y, some (.int rb), some (.int (m : Nat)), some (.int ((m + 1 : Nat)))] ∧ GF g wd w' ∧ GW w' g n7 l7 m7 ∧ m + 2 ≤ m7 ∧ l7 ≤ l ∧ n7 + 12 * l7 ≤ n + 12 * l + 4, ?_, ?_⟩
    · refine ⟨rfl, g, n6, l6, m6, 2, rfl, by decide, by decide, W6, fun v v0 v1 w7 f7 W7 => ⟨fun _ => ?_, fun _ => ?_⟩⟩
      · refine ⟨sz rfl, sz rfl, rfl, g, n6, l6, m6, _, rfl, .jal 0 (m + 1) (by decide) (by decide) (by omega), W7, by omega, fun w8 f8 W8 => ⟨rfl, g, n6 + 1, l6, m6, m, rfl, by omega, W8, by omega, fun w9 f9 W9 => ⟨rfl, d - 1, g, n6 + 1, l6, m6, by omega, by rw [← hd1], W9, by omega, fun w10 n10 l10 m10 f10 W10 hm10 hl10 hp10 => ?_⟩⟩⟩
        exact ⟨n10, l10, m10, _, _, rfl, f5'.trans (f6.trans (f7.trans (f8.trans (f9.trans f10)))), W10, by omega, by omega, by omega⟩
      · exact ⟨rfl, g, n6, l6, m6, m, rfl, by omega, W7, by omega, fun w8 f8 W8 => ⟨n6, l6, m6, _, _, rfl, f5'.trans (f6.trans (f7.trans f8)), W8, by omega, by omega, by omega⟩⟩
    · rintro ρ w7 ⟨n7, l7, m7, x, y, rfl, f7, W7, hm7, hl7, hp7⟩
      exact ⟨rfl, g, n7, l7, m7, m + 1, rfl, by omega, W7, by omega, fun w8 f8 W8 => le_w (q w8 n7 l7 m7 (f7.trans f8) W8 (by omega) hl7 (by omega))⟩

theorem ok__law_loop {lv dd : Nat} (hlv : 3 ≤ lv) (T : Tx K mg) (k__law_some : Kp P w K mg base 2 "_law_some" ["_law_p", "_law_many"] fSome) (k__law_put_word : Kp P w K mg base 1 "_law_put_word" ["_law_p", "_law_row"] fPut)
    (k__law_label : Kp P w K mg base 1 "_law_label" ["_law_p"] fLabel) (k__law_here : Kp P w K mg base 1 "_law_here" ["_law_p", "_law_label_here"] fHere) (k__law_rows : Kp P w K mg base lv "_law_rows" ["_law_p", "_law_depth"] (fRows (dd - 1))) : Kp P w K mg base (lv + 1) "_law_loop" ["_law_p", "_law_depth"] (fItem dd) := by
  have sc := sc__law_loop
  obtain ⟨f, fd, hm, FD⟩ := T.has 41 (i := 52) (x := "_law_loop") rfl
  refine kp_of FD hm sc (fun _ _ _ _ _ _ us hl => match us, hl with | [_, _], _ => rfl) fun cdv A outer s H E hr => ⟨_, (wss_cut (ws_set (i := 2) sc.nd (we_if (wt_gt (we_var 1) we_int) we_int we_int))
    (wss_cons (ws_set (i := 3) sc.nd (we_call (k__law_label.mono (by omega)) hr (wa_cons (we_var 0) wa_nil)))
    (wss_cons (ws_expr (we_call (k__law_put_word.mono (by omega)) hr (wa_cons (we_var 0) (wa_cons (we_tup (wa_cons we_str (wa_cons (we_var 2) (wa_cons we_int (wa_cons (we_add we_int (we_call (k__law_some.mono (by omega)) hr (wa_cons (we_var 0) (wa_cons we_int wa_nil)))) wa_nil))))) wa_nil))))
    (wss_cons (ws_expr (we_call (k__law_here.mono (by omega)) hr (wa_cons (we_var 0) (wa_cons (we_var 3) wa_nil))))
    (wss_cons (ws_expr (we_call (k__law_rows.mono (by omega)) hr (wa_cons (we_var 0) (wa_cons (we_sub (we_var 1) we_int) wa_nil))))
    (wss_cons (ws_expr (we_call (k__law_put_word.mono (by omega)) hr (wa_cons (we_var 0) (wa_cons (we_tup (wa_cons we_str (wa_cons (we_var 2) (wa_cons (we_var 2) (wa_cons (we_neg we_int) wa_nil))))) wa_nil))))
    (wss_one (ws_expr (we_call (k__law_put_word.mono (by omega)) hr (wa_cons (we_var 0) (wa_cons (we_tup (wa_cons (we_ix (we_lst (wa_cons we_str (wa_cons we_str wa_nil))) (we_call (k__law_some.mono (by omega)) hr (wa_cons (we_var 0) (wa_cons we_int wa_nil)))) (wa_cons we_int (wa_cons (we_var 2) (wa_cons (we_tup (wa_cons we_str (wa_cons (we_var 3) wa_nil))) wa_nil))))) wa_nil))))))))))), fun ds wd Q hl hF => ?_⟩
  obtain ⟨d, g, n, l, m, hdd, hd0, rfl, W, hn, q⟩ := hF
  have hd1 : ((d : Nat) : Int) - 1 = ((d - 1 : Nat) : Int) := by omega
  refine ⟨fun ρ w' => w' = wd ∧ ∃ c, ρ = [some (.ref g.p), some (.int (d : Nat)), some (.int c), none] ∧ 0 ≤ c ∧ c < 16, ⟨fun _ => ⟨rfl, 9, rfl, by decide, by decide⟩, fun _ => ⟨rfl, 12, rfl, by decide, by decide⟩⟩, ?_⟩
  rintro ρ w' ⟨rfl, c, rfl, c0, c1⟩
  refine ⟨rfl, g, n, l, m, rfl, W, by omega, fun w2 f2 W2 => ⟨rfl, g, n + 1, l, m + 1, 4, rfl, by decide, by decide, W2, fun v v0 v1 w3 f3 W3 => ⟨sz rfl, rfl, g, n + 1, l, m + 1, _, rfl, row_3 (k := 13) (by decide) (by decide) (by decide) (iok3 (by decide) (by decide) (by decide) c0 c1 (by decide) (by decide) (by omega) (by omega)), W3, by omega, fun w4 f4 W4 => ⟨rfl, g, n + 2, l, m + 1, m, rfl, by omega, W4, by omega, fun w5 f5 W5 => ?_⟩⟩⟩⟩
  have f5' := f2.trans (f3.trans (f4.trans f5))
  refine ⟨rfl, d - 1, g, n + 2, l, m + 1, by omega, by rw [← hd1], W5, by omega, fun w6 n6 l6 m6 f6 W6 hm6 hl6 hp6 => ?_⟩
  refine ⟨sz rfl, rfl, g, n6, l6, m6, _, rfl, row_3 (k := 13) (by decide) (by decide) (by decide) (iok3 (by decide) (by decide) (by decide) c0 c1 c0 c1 (by decide) (by decide)), W6, by omega, fun w7 f7 W7 => ⟨sz rfl, fun a ha => ⟨rfl, g, n6 + 1, l6, m6, 2, rfl, by decide, by decide, W7.mono (LE.new ha), fun v v0 v1 w8 f8 W8 => ?_⟩⟩⟩
  have h1 := f8 a _ (W7.fresh ha) updW_same
  have fa := (GF.le (g := g) (LE.new (o := .lst [.str "bne", .str "bltu"]) ha)).trans f8
  obtain ⟨k, hk, hat⟩ := pick_op (ks := [28, 31]) v0 v1
  have hk2 : ∀ k ∈ [28, 31], 27 ≤ k ∧ k < 33 := by decide
  obtain ⟨kk0, kk1⟩ := hk2 k hk
  exact ⟨_, _, h1, hat, sz rfl, sz rfl, rfl, g, n6 + 1, l6, m6, _, rfl, .br k 0 c m kk0 kk1 (by decide) (by decide) c0 c1 (by omega), W8, by omega, fun w9 f9 W9 => le_w (q w9 (n6 + 2) l6 m6 (f5'.trans (f6.trans (f7.trans (fa.trans f9)))) W9 (by omega) hl6 (by omega))⟩

theorem ok__law_switch {lv dd : Nat} (hlv : 3 ≤ lv) (T : Tx K mg) (k__law_put_word : Kp P w K mg base 1 "_law_put_word" ["_law_p", "_law_row"] fPut) (k__law_register : Kp P w K mg base 3 "_law_register" ["_law_p"] fReg)
    (k__law_label : Kp P w K mg base 1 "_law_label" ["_law_p"] fLabel) (k__law_here : Kp P w K mg base 1 "_law_here" ["_law_p", "_law_label_here"] fHere) (k__law_rows : Kp P w K mg base lv "_law_rows" ["_law_p", "_law_depth"] (fRows (dd - 1))) : Kp P w K mg base (lv + 1) "_law_switch" ["_law_p", "_law_depth"] (fItem dd) := by
  have sc := sc__law_switch
  obtain ⟨f, fd, hm, FD⟩ := T.has 43 (i := 54) (x := "_law_switch") rfl
  refine kp_of FD hm sc (fun _ _ _ _ _ _ us hl => match us, hl with | [_, _], _ => rfl) fun cdv A outer s H E hr => ⟨_, (wss_cons (ws_set (i := 2) sc.nd (we_call (k__law_label.mono (by omega)) hr (wa_cons (we_var 0) wa_nil)))
    (wss_cons (ws_set (i := 3) sc.nd (we_call (k__law_label.mono (by omega)) hr (wa_cons (we_var 0) wa_nil)))
    (wss_cons (ws_set (i := 4) sc.nd (we_call (k__law_label.mono (by omega)) hr (wa_cons (we_var 0) wa_nil)))
    (wss_cons (ws_set (i := 5) sc.nd (we_len (T.fre 0 rfl) (wa_cons (we_get hr (we_var 0)) wa_nil)))
    (wss_cons (ws_put hr (we_add (we_get hr (we_var 0)) (we_lst (wa_cons (we_var 2) (wa_cons (we_var 3) wa_nil)))) (we_var 0))
    (wss_cons (ws_expr (we_call (k__law_put_word.mono (by omega)) hr (wa_cons (we_var 0) (wa_cons (we_tup (wa_cons we_str (wa_cons we_int (wa_cons (we_call (k__law_register.mono (by omega)) hr (wa_cons (we_var 0) wa_nil)) (wa_cons we_int wa_nil))))) wa_nil))))
    (wss_cons (ws_expr (we_call (k__law_put_word.mono (by omega)) hr (wa_cons (we_var 0) (wa_cons (we_tup (wa_cons we_str (wa_cons we_int (wa_cons we_int (wa_cons we_int wa_nil))))) wa_nil))))
    (wss_cons (ws_expr (we_call (k__law_put_word.mono (by omega)) hr (wa_cons (we_var 0) (wa_cons (we_tup (wa_cons we_str (wa_cons we_int (wa_cons we_int (wa_cons we_int wa_nil))))) wa_nil))))
    (wss_cons (ws_expr (we_call (k__law_put_word.mono (by omega)) hr (wa_cons (we_var 0) (wa_cons (we_tup (wa_cons we_str (wa_cons we_int (wa_cons we_int (wa_cons (we_mul we_int (we_var 5)) wa_nil))))) wa_nil))))
    (wss_cons (ws_expr (we_call (k__law_put_word.mono (by omega)) hr (wa_cons (we_var 0) (wa_cons (we_tup (wa_cons we_str (wa_cons we_int (wa_cons we_int (wa_cons we_int wa_nil))))) wa_nil))))
    (wss_cons (ws_expr (we_call (k__law_here.mono (by omega)) hr (wa_cons (we_var 0) (wa_cons (we_var 2) wa_nil))))
    (wss_cons (ws_expr (we_call (k__law_rows.mono (by omega)) hr (wa_cons (we_var 0) (wa_cons (we_sub (we_var 1) we_int) wa_nil))))
    (wss_cons (ws_expr (we_call (k__law_put_word.mono (by omega)) hr (wa_cons (we_var 0) (wa_cons (we_tup (wa_cons we_str (wa_cons we_int (wa_cons (we_tup (wa_cons we_str (wa_cons (we_var 4) wa_nil))) wa_nil)))) wa_nil))))
    (wss_cons (ws_expr (we_call (k__law_here.mono (by omega)) hr (wa_cons (we_var 0) (wa_cons (we_var 3) wa_nil))))
    (wss_cons (ws_expr (we_call (k__law_rows.mono (by omega)) hr (wa_cons (we_var 0) (wa_cons (we_sub (we_var 1) we_int) wa_nil))))
    (wss_one (ws_expr (we_call (k__law_here.mono (by omega)) hr (wa_cons (we_var 0) (wa_cons (we_var 4) wa_nil)))))))))))))))))))), fun ds wd Q hl hF => ?_⟩
  obtain ⟨d, g, n, l, m, hdd, hd0, rfl, W, hn, q⟩ := hF
  have hd1 : ((d : Nat) : Int) - 1 = ((d - 1 : Nat) : Int) := by omega
  refine ⟨rfl, g, n, l, m, rfl, W, by omega, fun w1 f1 W1 => ⟨rfl, g, n + 1, l, m + 1, rfl, W1, by omega, fun w2 f2 W2 => ⟨rfl, g, n + 2, l, m + 2, rfl, W2, by omega, fun w3 f3 W3 => ?_⟩⟩⟩
  have f3' := f1.trans (f2.trans f3)
  obtain ⟨f, tb, table, t1, t2, t3, t4, t5, t6⟩ := W3.tabled
  have tl : ((natsD table).length : Int) = (table.length : Int) := by unfold natsD; rw [List.length_map]
  refine ⟨6, f, _, t1, t2, _, t3, 6, f, _, t1, t2, sz rfl, fun a ha => ⟨_, _, (LE.new ha) _ _ t3, updW_same, ?_, fun b hb => ?_⟩⟩
  · have e : (natsD table).length = table.length := by unfold natsD; rw [List.length_map]
    rw [e]
    exact Nat.le_trans (Nat.add_le_add_right t4 2) (sz2 (by omega))
  have le4 := (LE.new (o := .lst [.int ((m : Nat) : Int), .int ((m + 1 : Nat) : Int)]) ha).trans (LE.new (o := .lst (natsD table ++ [.int ((m : Nat) : Int), .int ((m + 1 : Nat) : Int)])) hb)
  have hb3 : w3 b = none := by
    cases e : w3 b with
    | none => rfl
    | some u => rw [LE.new ha b u e] at hb; cases hb
  have W4 := t6 _ b m (m + 1) le4 (by rw [updW_same]; unfold natsD; rw [List.map_append]; rfl) (W3.fresh hb3) (by omega) (by omega)
  refine ⟨6, f, 6, le4 _ _ t1, by decide, .inl ⟨rfl, t5⟩, ?_⟩
  have f4' := f3'.trans ((GF.le le4).trans (GF.put (o := .dct 6 (putF f "table" (.ref b))) gm_p))
  refine ⟨rfl, g, n + 5, l, m + 3, rfl, W4, fun x x0 x1 w5 f5 W5 => ⟨sz rfl, rfl, g, n + 5, l, m + 3, _, rfl, row_3 (k := 14) (by decide) (by decide) (by decide) (iok3 (by decide) (by decide) (by decide) (by decide) (by decide) (by omega) (by omega) (by decide) (by decide)), W5, by omega, fun w6 f6 W6 =>
    ⟨sz rfl, rfl, g, n + 6, l, m + 3, _, rfl, row_3 (k := 17) (by decide) (by decide) (by decide) (iok3 (by decide) (by decide) (by decide) (by decide) (by decide) (by decide) (by decide) (by decide) (by decide)), W6, by omega, fun w7 f7 W7 =>
    ⟨sz rfl, rfl, g, n + 7, l, m + 3, _, rfl, row_3 (k := 0) (by decide) (by decide) (by decide) (iokA (by decide) (by decide) (by decide) (by decide) (by decide) (by decide) (by decide)), W7, by omega, fun w8 f8 W8 => ⟨.inl ⟨by decide, by decide⟩, sz rfl, rfl, g, n + 8, l, m + 3, _, rfl, row_3 (k := 22) (by decide) (by decide) (by decide) (iok3 (by decide) (by decide) (by decide) (by decide) (by decide) (by decide) (by decide) (by rw [tl]; omega) (by rw [tl]; omega)), W8, by omega, fun w9 f9 W9 =>
    ⟨sz rfl, rfl, g, n + 9, l, m + 3, _, rfl, row_3 (k := 34) (by decide) (by decide) (by decide) (iok3 (by decide) (by decide) (by decide) (by decide) (by decide) (by decide) (by decide) (by decide) (by decide)), W9, by omega, fun w10 f10 W10 => ⟨rfl, g, n + 10, l, m + 3, m, rfl, by omega, W10, by omega, fun w11 f11 W11 => ?_⟩⟩⟩⟩⟩⟩⟩
  have f11' := f4'.trans (f5.trans (f6.trans (f7.trans (f8.trans (f9.trans (f10.trans f11))))))
  refine ⟨rfl, d - 1, g, n + 10, l, m + 3, by omega, by rw [← hd1], W11, by omega, fun w12 n12 l12 m12 f12 W12 hm12 hl12 hp12 => ?_⟩
  refine ⟨sz rfl, sz rfl, rfl, g, n12, l12, m12, _, rfl, .jal 0 (m + 2) (by decide) (by decide) (by omega), W12, by omega, fun w13 f13 W13 => ⟨rfl, g, n12 + 1, l12, m12, m + 1, rfl, by omega, W13, by omega, fun w14 f14 W14 => ⟨rfl, d - 1, g, n12 + 1, l12, m12, by omega, by rw [← hd1], W14, by omega, fun w15 n15 l15 m15 f15 W15 hm15 hl15 hp15 => ⟨rfl, g, n15, l15, m15, m + 2, rfl, by omega, W15, by omega, fun w16 f16 W16 => ?_⟩⟩⟩⟩
  exact le_w (q w16 n15 l15 m15 (f11'.trans (f12.trans (f13.trans (f14.trans (f15.trans f16))))) W16 (by omega) (by omega) (by omega))

def RowsI (g : GA) (d : Nat) (w : Wd) (n l m : Nat) (ρ : DEnv) (w' : Wd) : Prop := ∃ n' l' m' x y, ρ = [some (D.ref g.p), some (D.int (d : Nat)), x, y] ∧ GF g w w' ∧ GW w' g n' l' m' ∧ m ≤ m' ∧ l' ≤ l ∧ n' + 12 * l' ≤ n + 12 * l
theorem ok__law_rows {lv dd : Nat} (hlv : 5 ≤ lv) (T : Tx K mg) (k__law_some : Kp P w K mg base 2 "_law_some" ["_law_p", "_law_many"] fSome) (k__law_put_word : Kp P w K mg base 1 "_law_put_word" ["_law_p", "_law_row"] fPut) (k__law_register : Kp P w K mg base 3 "_law_register" ["_law_p"] fReg)
    (k__law_alu : Kp P w K mg base 4 "_law_alu" ["_law_p"] fRow1) (k__law_memory : Kp P w K mg base 4 "_law_memory" ["_law_p"] fRow1) (k__law_odd : Kp P w K mg base 4 "_law_odd" ["_law_p"] fRow1) (k__law_call : Kp P w K mg base 5 "_law_call" ["_law_p"] fRow1)
    (k__law_if : Kp P w K mg base lv "_law_if" ["_law_p", "_law_depth"] (fItem dd)) (k__law_loop : Kp P w K mg base lv "_law_loop" ["_law_p", "_law_depth"] (fItem dd)) (k__law_switch : Kp P w K mg base lv "_law_switch" ["_law_p", "_law_depth"] (fItem dd)) : Kp P w K mg base (lv + 1) "_law_rows" ["_law_p", "_law_depth"] (fRows dd) := by
  have sc := sc__law_rows
  obtain ⟨f, fd, hm, FD⟩ := T.has 44 (i := 55) (x := "_law_rows") rfl
  refine kp_of FD hm sc (fun _ _ _ _ _ _ us hl => match us, hl with | [_, _], _ => rfl) fun cdv A outer s H E hr => ⟨_, (wss_one (ws_forR (i := 2) PassesOwn.never (by rfl) sc.nd (T.fre 1 rfl) (we_add we_int (we_call (k__law_some.mono (by omega)) hr (wa_cons (we_var 0) (wa_cons we_int wa_nil)))) (wss_one (ws_if (wt_gt (we_get hr (we_var 0)) we_int) (wss_cons (ws_put hr (we_sub (we_get hr (we_var 0)) we_int) (we_var 0))
    (wss_cons (ws_set (i := 3) sc.nd (we_call (k__law_some.mono (by omega)) hr (wa_cons (we_var 0) (wa_cons we_int wa_nil))))
    (wss_one (ws_if (wt_lt (we_var 3) we_int) (wss_one (ws_expr (we_call (k__law_alu.mono (by omega)) hr (wa_cons (we_var 0) wa_nil)))) (wss_one (ws_if (wt_lt (we_var 3) we_int) (wss_one (ws_expr (we_call (k__law_memory.mono (by omega)) hr (wa_cons (we_var 0) wa_nil)))) (wss_one (ws_if (wt_lt (we_var 3) we_int) (wss_one (ws_expr (we_call (k__law_put_word.mono (by omega)) hr (wa_cons (we_var 0) (wa_cons (we_tup (wa_cons (we_ix (we_lst (wa_cons we_str (wa_cons we_str wa_nil))) (we_call (k__law_some.mono (by omega)) hr (wa_cons (we_var 0) (wa_cons we_int wa_nil)))) (wa_cons (we_call (k__law_register.mono (by omega)) hr (wa_cons (we_var 0) wa_nil)) wa_nil))) wa_nil))))) (wss_one (ws_if (PW.pt (ww_and (wt_eq hr (we_var 3) we_int) (ww_and1 (wt_eq hr (we_call (k__law_some.mono (by omega)) hr (wa_cons (we_var 0) (wa_cons we_int wa_nil))) we_int)))) (wss_one (ws_expr (we_call (k__law_odd.mono (by omega)) hr (wa_cons (we_var 0) wa_nil)))) (wss_one (ws_if (wt_le (we_var 1) we_int) (wss_one (ws_expr (we_call (k__law_alu.mono (by omega)) hr (wa_cons (we_var 0) wa_nil)))) (wss_one (ws_if (wt_lt (we_var 3) we_int) (wss_one (ws_expr (we_call (k__law_if.mono (by omega)) hr (wa_cons (we_var 0) (wa_cons (we_var 1) wa_nil))))) (wss_one (ws_if (wt_eq hr (we_var 3) we_int) (wss_one (ws_expr (we_call (k__law_loop.mono (by omega)) hr (wa_cons (we_var 0) (wa_cons (we_var 1) wa_nil))))) (wss_one (ws_if (wt_eq hr (we_var 3) we_int) (wss_one (ws_expr (we_call (k__law_switch.mono (by omega)) hr (wa_cons (we_var 0) (wa_cons (we_var 1) wa_nil))))) (wss_one (ws_expr (we_call (k__law_call.mono (by omega)) hr (wa_cons (we_var 0) wa_nil)))))))))))))))))))))) wss_nil)))), fun ds wd Q hl hF => ?_⟩
  obtain ⟨d, g, n, l, m, hdd, rfl, W, hn, q⟩ := hF
  refine ⟨rfl, g, n, l, m, 4, rfl, by decide, by decide, W, fun v v0 v1 w1 f1 W1 => ⟨by omega, by omega, fun j ρ w' => RowsI g d wd n l m ρ w', ⟨n, l, m, none, none, rfl, f1, W1, Nat.le_refl _, Nat.le_refl _, Nat.le_refl _⟩, ?_, ?_⟩⟩
  · rintro j ρ w2 hj ⟨n', l', m', x, y, rfl, f2, W2, hm, hl, hp⟩
    obtain ⟨f, t1, t2, t3, t4⟩ := W2.left
    refine ⟨6, f, _, t1, t2, fun h => ?_, fun h => ⟨n', l', m', _, _, rfl, f2, W2, hm, hl, hp⟩⟩
    have l0 : 0 < l' := by have := of_decide_eq_true h; omega
    have el : ((l' : Nat) : Int) - 1 = ((l' - 1 : Nat) : Int) := by omega
    have W3 := t4 (l' - 1)
    rw [← el] at W3
    have f3 := f2.trans (GF.put (o := .dct 6 (putF f "left" (.int (((l' : Nat) : Int) - 1)))) gm_p)
    have e1 : ∀ w4 x y, GF g wd w4 → GW w4 g (n' + 1) (l' - 1) m' → RowsI g d wd n l m [some (.ref g.p), some (.int (d : Nat)), x, y] w4 := fun w4 x y f4 W4 => ⟨n' + 1, l' - 1, m', x, y, rfl, f4, W4, hm, by omega, by omega⟩
    have e2 : ∀ w4 n4 l4 m4 x y, GF g wd w4 → GW w4 g n4 l4 m4 → m' ≤ m4 → l4 ≤ l' - 1 → n4 + 12 * l4 ≤ n' + 12 * (l' - 1) + 12 → RowsI g d wd n l m [some (.ref g.p), some (.int (d : Nat)), x, y] w4 := fun w4 n4 l4 m4 x y f4 W4 h1 h2 h3 => ⟨n4, l4, m4, x, y, rfl, f4, W4, by omega, by omega, by omega⟩
    have hd : decide (((d : Nat) : Int) ≤ 0) = false → 1 ≤ d := fun hc => by have := of_decide_eq_false hc; omega
    have n16 : n' ≤ 1500 := by omega
    refine ⟨6, f, _, t1, t2, 6, f, 6, t1, by decide, .inl ⟨rfl, t3⟩, rfl, g, n', l' - 1, m', 18, rfl, by decide, by decide, W3, fun wv wv0 wv1 w4 f4 W4 => ?_⟩
    have f4' := f3.trans f4
    refine ⟨fun _ => ?_, fun _ => ⟨fun _ => ?_, fun _ => ⟨fun _ => ?_, fun _ => ?_⟩⟩⟩
    · exact ⟨rfl, g, n', l' - 1, m', rfl, W4, by omega, fun w5 f5 W5 => e1 w5 _ _ (f4'.trans f5) W5⟩
    · exact ⟨rfl, g, n', l' - 1, m', rfl, W4, by omega, fun w5 f5 W5 => e1 w5 _ _ (f4'.trans f5) W5⟩
    · refine ⟨sz rfl, fun a ha => ⟨rfl, g, n', l' - 1, m', 2, rfl, by decide, by decide, W4.mono (LE.new ha), fun v v0 v1 w5 f5 W5 => ?_⟩⟩
      have h1 := f5 a _ (W4.fresh ha) updW_same
      have fa := (GF.le (g := g) (LE.new (o := .lst [.str "get", .str "put"]) ha)).trans f5
      obtain ⟨k, hk, hat⟩ := pick_op (ks := [35, 36]) v0 v1
      have hk2 : ∀ k ∈ [35, 36], 35 ≤ k ∧ k < 38 := by decide
      obtain ⟨kk0, kk1⟩ := hk2 k hk
      exact ⟨_, _, h1, hat, rfl, g, n', l' - 1, m', rfl, W5, fun x x0 x1 w6 f6 W6 => ⟨sz rfl, rfl, g, n', l' - 1, m', _, rfl, row_1 kk0 (iok1 kk0 kk1 (by omega) (by omega)), W6, by omega, fun w7 f7 W7 => e1 w7 _ _ (f4'.trans (fa.trans (f6.trans f7))) W7⟩⟩
    · exact ⟨fun _ => ⟨rfl, g, n', l' - 1, m', 3, rfl, by decide, by decide, W4, fun v v0 v1 w5 f5 W5 => ⟨fun _ => ⟨rfl, g, n', l' - 1, m', rfl, W5, by omega, fun w6 f6 W6 => e1 w6 _ _ (f4'.trans (f5.trans f6)) W6⟩, fun _ => ⟨fun hc => ⟨rfl, g, n', l' - 1, m', rfl, W5, by omega, fun w9 f9 W9 => e1 w9 _ _ ((f4'.trans f5).trans f9) W9⟩, fun hc => ⟨fun _ => ⟨rfl, d, g, n', l' - 1, m', hdd, hd hc, rfl, W5, by omega, fun w9 n9 l9 m9 f9 W9 h1 h2 h3 => e2 w9 n9 l9 m9 _ _ ((f4'.trans f5).trans f9) W9 h1 h2 h3⟩, fun _ => ⟨fun _ => ⟨rfl, d, g, n', l' - 1, m', hdd, hd hc, rfl, W5, by omega, fun w9 n9 l9 m9 f9 W9 h1 h2 h3 => e2 w9 n9 l9 m9 _ _ ((f4'.trans f5).trans f9) W9 h1 h2 h3⟩, fun _ => ⟨fun _ => ⟨rfl, d, g, n', l' - 1, m', hdd, hd hc, rfl, W5, by omega, fun w9 n9 l9 m9 f9 W9 h1 h2 h3 => e2 w9 n9 l9 m9 _ _ ((f4'.trans f5).trans f9) W9 h1 h2 h3⟩, fun _ => ⟨rfl, g, n', l' - 1, m', rfl, W5, by omega, fun w9 f9 W9 => e1 w9 _ _ ((f4'.trans f5).trans f9) W9⟩⟩⟩⟩⟩⟩⟩, fun _ => ⟨fun z => absurd (show false = true from z) (by decide), fun _ => ⟨fun hc => ⟨rfl, g, n', l' - 1, m', rfl, W4, by omega, fun w9 f9 W9 => e1 w9 _ _ (f4'.trans f9) W9⟩, fun hc => ⟨fun _ => ⟨rfl, d, g, n', l' - 1, m', hdd, hd hc, rfl, W4, by omega, fun w9 n9 l9 m9 f9 W9 h1 h2 h3 => e2 w9 n9 l9 m9 _ _ (f4'.trans f9) W9 h1 h2 h3⟩, fun _ => ⟨fun _ => ⟨rfl, d, g, n', l' - 1, m', hdd, hd hc, rfl, W4, by omega, fun w9 n9 l9 m9 f9 W9 h1 h2 h3 => e2 w9 n9 l9 m9 _ _ (f4'.trans f9) W9 h1 h2 h3⟩, fun _ => ⟨fun _ => ⟨rfl, d, g, n', l' - 1, m', hdd, hd hc, rfl, W4, by omega, fun w9 n9 l9 m9 f9 W9 h1 h2 h3 => e2 w9 n9 l9 m9 _ _ (f4'.trans f9) W9 h1 h2 h3⟩, fun _ => ⟨rfl, g, n', l' - 1, m', rfl, W4, by omega, fun w9 f9 W9 => e1 w9 _ _ (f4'.trans f9) W9⟩⟩⟩⟩⟩⟩⟩
  · rintro ρ w2 ⟨n', l', m', x, y, rfl, f2, W2, hm, hl, hp⟩
    exact le_w (q w2 n' l' m' f2 W2 hm hl (by omega))
end
end Rs
set_option maxHeartbeats 4000000
/-! The law's programs: their words, their bytes. -/
namespace Rs
open PySem PySem.Spec PyProof.Rows L2
theorem not_word : ∀ k, k < 38 → decide (opS k = "word") = false := by decide +kernel
theorem ins_last (i : Ins) : ∃ x, atI (insL i) (((insL i).length : Int) - 1) = some (.int x) := by
  unfold insL
  split
  · exact ⟨_, rfl⟩
  · split
    · exact ⟨_, rfl⟩
    · exact ⟨_, rfl⟩
theorem encM_word {i : Ins} (O : InsOk i) : Word (encM i) := by
  obtain ⟨hk, a0, a1, b0, b1, br, bl, c0, c1, cr⟩ := O
  unfold encM
  by_cases h35 : 35 ≤ i.k
  · rw [if_pos h35]
    exact ⟨by omega, by omega⟩
  · rw [if_neg h35]
    by_cases h2 : i.k = 21 ∨ i.k = 33
    · rw [if_pos h2]
      exact ⟨by omega, by omega⟩
    · rw [if_neg h2]
      have hb := br h2
      by_cases h13 : i.k < 13
      · rw [if_pos h13]
        have hc := cr h13
        exact ⟨by omega, by omega⟩
      · rw [if_neg h13]
        exact ⟨by omega, by omega⟩
section
variable {P : Program} {w : World} {K : PySem.W.Frag} {mg : Str → Option Value} {base : Heap}

theorem sc__law_bytes : FnScope ["_law_word_here"] ["_law_word_here"] (defScope (top 42)) := ⟨rfl, rfl, rfl, by decide +kernel, rfl, by decide +kernel, by decide +kernel⟩
def fBytes : DSp := fun ds w P => ∃ v, ds = [.int v] ∧ Word v ∧ ∀ (a : Addr) (bs : List Int), bs.length = 4 → (∀ x ∈ bs, Byte x) → w a = none → P (.ref a) (updW w a (.lst (bs.map D.int)))
theorem ok__law_bytes (T : Tx K mg) : Kp P w K mg base 1 "_law_bytes" ["_law_word_here"] fBytes := by
  have sc := sc__law_bytes
  obtain ⟨f, fd, hm, FD⟩ := T.has 31 (i := 42) (x := "_law_bytes") rfl
  refine kp_of FD hm sc (fun _ _ _ _ _ _ us hl => match us, hl with | [_], _ => rfl) fun cdv A outer s H E hr => ⟨_, (wss_one (ws_ret (we_lst (wa_cons (we_mod (we_intOf (T.fre 4 rfl) (wa_cons (we_var 0) wa_nil)) we_int) (wa_cons (we_mod (we_fdiv (we_var 0) we_int) we_int) (wa_cons (we_mod (we_fdiv (we_var 0) we_int) we_int) (wa_cons (we_fdiv (we_var 0) we_int) wa_nil))))))), fun ds wd Q hl hF => ?_⟩
  obtain ⟨v, rfl, ⟨v0, v1⟩, q⟩ := hF
  have dv : ∀ i j : Int, 0 < j → j < 4294967296 → CDivW i j := fun i j h1 h2 => wide_div (b := 33) h1 (by omega) (by decide) (by decide)
  refine ⟨(by decide : (0 : Int) < 256), dv _ _ (by decide) (by decide), (by decide : (0 : Int) < 256), dv _ _ (by decide) (by decide), (by decide : (0 : Int) < 256), dv _ _ (by decide) (by decide), sz rfl, fun a ha => le_w (q a [v % 256, v / 256 % 256, v / 65536 % 256, v / 16777216] rfl ?_ ha)⟩
  intro x hx
  rcases List.mem_cons.mp hx with rfl | hx
  · exact ⟨by omega, by omega⟩
  rcases List.mem_cons.mp hx with rfl | hx
  · exact ⟨by omega, by omega⟩
  rcases List.mem_cons.mp hx with rfl | hx
  · exact ⟨by omega, by omega⟩
  rw [List.mem_singleton.mp hx]
  exact ⟨by omega, by omega⟩

theorem sc__law_values : FnScope ["_law_words", "_law_found", "_law_word_here"] ["_law_words"] (defScope (top 58)) := ⟨rfl, rfl, rfl, by decide +kernel, rfl, by decide +kernel, by decide +kernel⟩
def fValues : DSp := fun ds w P => ∃ (a : Addr) (ws : List Int), ds = [.ref a] ∧ w a = some (.lst (ws.map D.int)) ∧ (∀ x ∈ ws, Word x) ∧ ws.length ≤ 2000 ∧ ∀ bs : List Int, (∀ x ∈ bs, Byte x) → bs.length ≤ 8000 → P (intsD bs) w
theorem ok__law_values (T : Tx K mg) (k__law_bytes : Kp P w K mg base 1 "_law_bytes" ["_law_word_here"] fBytes) : Kp P w K mg base 2 "_law_values" ["_law_words"] fValues := by
  have sc := sc__law_values
  obtain ⟨f, fd, hm, FD⟩ := T.has 47 (i := 58) (x := "_law_values") rfl
  refine kp_of FD hm sc (fun _ _ _ _ _ _ us hl => match us, hl with | [_], _ => rfl) fun cdv A outer s H E hr => ⟨_, (wss_cons (ws_set (i := 1) sc.nd (we_lst wa_nil))
    (wss_cons (ws_forL (i := 2) PassesOwn.never (by rfl) sc.nd (we_var 0) (wss_one (ws_set (i := 1) sc.nd (we_add (we_var 1) (we_call (k__law_bytes.mono (by decide)) hr (wa_cons (we_var 2) wa_nil))))))
    (wss_one (ws_ret (we_tupOf (T.fre 2 rfl) (wa_cons (we_var 1) wa_nil)))))), fun ds wd Q hl hF => ?_⟩
  obtain ⟨a, ws, rfl, ha, hw, hl2, q⟩ := hF
  refine ⟨sz rfl, fun b hb => ⟨_, .inr ⟨_, rfl, LE.new hb _ _ ha⟩, fun k ρ w' => LE wd w' ∧ ∃ (f : Addr) (bs : List Int) (x : Option D), ρ = [some (.ref a), some (.ref f), x] ∧ w' f = some (.lst (bs.map D.int)) ∧ (∀ x ∈ bs, Byte x) ∧ bs.length = 4 * k, ⟨LE.new hb, b, [], none, rfl, updW_same, (by intro x hx; cases hx), rfl⟩, ?_, ?_, ?_⟩⟩
  · rintro k ρ w' c e hk ⟨le, _⟩
    cases e
    exact le _ _ ha
  · rintro k x ρ w' hx ⟨le, f, bs, y, rfl, hf, hb, hbl⟩
    rw [List.getElem?_map] at hx
    cases hv : ws[k]? with
    | none => rw [hv] at hx; cases hx
    | some v =>
      rw [hv] at hx
      cases hx
      have hk : k < ws.length := (List.getElem?_eq_some_iff.mp hv).1
      refine ⟨rfl, v, rfl, hw _ (List.mem_of_getElem? hv), fun c cs hcl hcb hc => ⟨_, _, LE.new hc _ _ hf, updW_same, ?_, fun e he => ⟨?_, e, bs ++ cs, _, rfl, ?_, ?_, ?_⟩⟩⟩
      · rw [List.length_map, List.length_map, hcl, hbl]
        exact sz2 (by omega)
      · exact le.trans ((LE.new hc).trans (LE.new he))
      · rw [updW_same, List.map_append]
      · intro z hz
        rcases List.mem_append.mp hz with h | h
        · exact hb z h
        · exact hcb z h
      · rw [List.length_append, hcl, hbl]
        omega
  · rintro ρ w' ⟨le, f, bs, y, rfl, hf, hb, hbl⟩
    rw [List.length_map] at hbl
    exact ⟨_, hf, wd, le, q bs hb (by omega)⟩

theorem sc__law_code_words : FnScope ["_law_p", "_law_words", "_law_k", "_law_row", "_law_last"] ["_law_p"] (defScope (top 57)) := ⟨rfl, rfl, rfl, by decide +kernel, rfl, by decide +kernel, by decide +kernel⟩
def fCode : DSp := fun ds w P => ∃ g n l m, ds = [.ref g.p] ∧ GW w g n l m ∧ n ≤ 1600 ∧ ∀ (a : Addr) (ws : List Int) (w' : Wd), LE w w' → w a = none → w' a = some (.lst (ws.map D.int)) → (∀ x ∈ ws, Word x) → ws.length ≤ 1600 → P (.ref a) w'
theorem ok__law_code_words (T : Tx K mg) (k__law_word : Kp P w K mg base 2 "_law_word" ["_law_row"] fEncode) : Kp P w K mg base 3 "_law_code_words" ["_law_p"] fCode := by
  have sc := sc__law_code_words
  obtain ⟨f, fd, hm, FD⟩ := T.has 46 (i := 57) (x := "_law_code_words") rfl
  refine kp_of FD hm sc (fun _ _ _ _ _ _ us hl => match us, hl with | [_], _ => rfl) fun cdv A outer s H E hr => ⟨_, (wss_cons (ws_set (i := 1) sc.nd (we_lst wa_nil))
    (wss_cons (ws_forR (i := 2) PassesOwn.never (by rfl) sc.nd (T.fre 1 rfl) (we_len (T.fre 0 rfl) (wa_cons (we_get hr (we_var 0)) wa_nil)) (wss_cons (ws_set (i := 3) sc.nd (we_ix (we_get hr (we_var 0)) (we_var 2)))
    (wss_one (ws_if (wt_eq hr (we_ix (we_var 3) we_int) we_str) (wss_one (ws_expr (we_app (we_var 1) (we_ix (we_var 3) we_int)))) (wss_cons (ws_set (i := 4) sc.nd (we_ix (we_var 3) (we_sub (we_len (T.fre 0 rfl) (wa_cons (we_var 3) wa_nil)) we_int)))
    (wss_cut (ws_if (wt_val (we_isi (T.fre 7 rfl) (wa_cons (we_var 4) (wa_cons (we_tyTuple (T.fre 2 rfl)) wa_nil)))) (wss_one (ws_set (i := 3) sc.nd (we_add (we_sl (we_var 3) wo_none (wo_some (we_sub (we_len (T.fre 0 rfl) (wa_cons (we_var 3) wa_nil)) we_int))) (we_tup (wa_cons (we_sub (we_ix (we_get hr (we_var 0)) (we_ix (we_var 4) we_int)) (we_var 2)) wa_nil))))) wss_nil)
    (wss_one (ws_expr (we_app (we_var 1) (we_call (k__law_word.mono (by decide)) hr (wa_cons (we_var 3) wa_nil)))))))))))
    (wss_one (ws_ret (we_var 1))))), fun ds wd Q hl hF => ?_⟩
  obtain ⟨g, n, l, m, rfl, ⟨f, kk, tb, rows, ats, calls, table, X⟩, hn, q⟩ := hF
  have hr := X.l1
  refine ⟨sz rfl, fun a ha => ?_⟩
  have X1 := X.mono (LE.new (o := .lst []) ha)
  refine ⟨6, f, _, X1.dict, X1.fc, _, X1.code, by omega, by omega, fun k ρ w' => LE wd w' ∧ ∃ (ws : List Int) (x y z : Option D), ρ = [some (.ref g.p), some (.ref a), x, y, z] ∧ w' a = some (.lst (ws.map D.int)) ∧ (∀ x ∈ ws, Word x) ∧ ws.length = k, ⟨LE.new ha, [], none, none, none, rfl, updW_same, (by intro x hx; cases hx), rfl⟩, ?_, ?_⟩
  · rintro k ρ w' hk ⟨le, ws, x, y, z, rfl, hws, hww, hwl⟩
    rw [Int.toNat_natCast] at hk
    have X2 := X.mono le
    have hrow : rows[k]? = some rows[k] := List.getElem?_eq_getElem hk
    have hat : atI rows ((k : Nat) : Int) = some rows[k] := atI_nat hrow
    have hro := X.ro _ (List.getElem_mem hk)
    have done : ∀ (v : Int) (x y z : Option D), Word v → LE wd (updW w' a (.lst (ws.map D.int ++ [.int v]))) ∧ ∃ (ws2 : List Int) (x2 y2 z2 : Option D), [some (D.ref g.p), some (D.ref a), x, y, z] = [some (D.ref g.p), some (D.ref a), x2, y2, z2] ∧ updW w' a (.lst (ws.map D.int ++ [.int v])) a = some (.lst (ws2.map D.int)) ∧ (∀ x ∈ ws2, Word x) ∧ ws2.length = k + 1 := by
      intro v x y z hv
      refine ⟨?_, ws ++ [v], x, y, z, rfl, ?_, ?_, ?_⟩
      · intro c u hc
        have hca : c ≠ a := by intro e; rw [e, ha] at hc; cases hc
        rw [updW_ne hca]
        exact le c u hc
      · rw [updW_same, List.map_append]
        rfl
      · intro u hu
        rcases List.mem_append.mp hu with h | h
        · exact hww u h
        · rw [List.mem_singleton.mp h]; exact hv
      · rw [List.length_append, hwl]
        rfl
    have wl : (ws.map D.int).length < sizeLine := by
      rw [List.length_map, hwl]
      exact Nat.lt_of_lt_of_le hk (sz2 (by omega))
    revert hro hat
    generalize rows[k] = row
    intro hat hro
    refine ⟨6, f, _, le _ _ X.dict, X.fc, _, _, le _ _ X.code, hat, ?_⟩
    cases hro with
    | word v hv =>
      exact ⟨_, rfl, fun _ => ⟨⟨_, _, rfl, hws⟩, _, rfl, _, hws, wl, done v _ _ _ hv⟩, fun h => absurd (show decide (("word" : Str) = "word") = false from h) (by decide)⟩
    | ins i O =>
      obtain ⟨x, hx⟩ := ins_last i
      have nw := not_word i.k O.hk
      refine ⟨_, ins0, fun h => absurd (nw.symm.trans h) (by decide), fun _ => ⟨_, hx, fun ρ w2 => w2 = w' ∧ ∃ i z, InsOk i ∧ ρ = [some (.ref g.p), some (.ref a), some (.int (k : Nat)), some (insD i), z], ⟨rfl, false, rfl, fun z => absurd (show false = true from z) (by decide), fun _ => ⟨rfl, i, _, O, rfl⟩⟩, ?_⟩⟩
      rintro ρ w2 ⟨rfl, i, z, O, rfl⟩
      exact ⟨⟨_, _, rfl, hws⟩, rfl, i, rfl, O, _, hws, wl, done (encM i) _ _ _ (encM_word O)⟩
    | br kk ra rb lab h1 h2 h3 h4 h5 h6 h7 =>
      have nw := not_word kk (by omega)
      have hlab : lab < ats.length := by rw [X.l2]; exact h7
      obtain ⟨t0, t1⟩ := X.ao _ (List.getElem_mem hlab)
      refine ⟨_, rfl, fun h => absurd (nw.symm.trans h) (by decide), fun _ => ⟨_, rfl, fun ρ w2 => w2 = w' ∧ ∃ i z, InsOk i ∧ ρ = [some (.ref g.p), some (.ref a), some (.int (k : Nat)), some (insD i), z], ⟨rfl, true, rfl, fun _ => ⟨6, f, _, le _ _ X.dict, X.ft, _, rfl, _, _, le _ _ X.ats, atI_intsD (List.getElem?_eq_getElem hlab), sz rfl, sz rfl, rfl, ⟨kk, ra, rb, ats[lab] - (k : Nat)⟩, some (toD lab), iok3 (by omega) (by omega) (by omega) h3 h4 h5 h6 (by omega) (by omega), ?_⟩, fun z => absurd (show true = false from z) (by decide)⟩, ?_⟩⟩
      · rw [show insD ⟨kk, ra, rb, ats[lab] - (k : Nat)⟩ = .tup [.str (opS kk), .int ra, .int rb, .int (ats[lab] - (k : Nat))] from congrArg D.tup (insL_3 (i := ⟨kk, ra, rb, ats[lab] - (k : Nat)⟩) (by show ¬ 35 ≤ kk; omega) (by show ¬ (kk = 21 ∨ kk = 33); omega))]
        rfl
      · rintro ρ w2 ⟨rfl, i, z, O, rfl⟩
        exact ⟨⟨_, _, rfl, hws⟩, rfl, i, rfl, O, _, hws, wl, done (encM i) _ _ _ (encM_word O)⟩
    | jal ra lab h1 h2 h3 =>
      have hlab : lab < ats.length := by rw [X.l2]; exact h3
      obtain ⟨t0, t1⟩ := X.ao _ (List.getElem_mem hlab)
      refine ⟨_, rfl, fun h => absurd ((not_word 33 (by decide)).symm.trans h) (by decide), fun _ => ⟨_, rfl, fun ρ w2 => w2 = w' ∧ ∃ i z, InsOk i ∧ ρ = [some (.ref g.p), some (.ref a), some (.int (k : Nat)), some (insD i), z], ⟨rfl, true, rfl, fun _ => ⟨6, f, _, le _ _ X.dict, X.ft, _, rfl, _, _, le _ _ X.ats, atI_intsD (List.getElem?_eq_getElem hlab), sz rfl, sz rfl, rfl, ⟨33, ra, ats[lab] - (k : Nat), 0⟩, some (toD lab), iokJ h1 h2 (by omega) (by omega), ?_⟩, fun z => absurd (show true = false from z) (by decide)⟩, ?_⟩⟩
      · rfl
      · rintro ρ w2 ⟨rfl, i, z, O, rfl⟩
        exact ⟨⟨_, _, rfl, hws⟩, rfl, i, rfl, O, _, hws, wl, done (encM i) _ _ _ (encM_word O)⟩
  · rintro ρ w' ⟨le, ws, x, y, z, rfl, hws, hww, hwl⟩
    rw [Int.toNat_natCast] at hwl
    exact le_w (q a ws w' le ha hws hww (by omega))
end
end Rs
set_option maxHeartbeats 4000000
/-! The law's image. -/
namespace Rs
open PySem PySem.Spec PyProof.Rows L2
theorem fresh_ne {u : Wd} {c b : Addr} {x : MO} (h : updW u b x c = none) : c ≠ b ∧ u c = none := by
  have hn : c ≠ b := by
    intro e
    rw [e, updW_same] at h
    cases h
  rw [updW_ne hn] at h
  exact ⟨hn, h⟩
theorem ne_none {u : Wd} {a c : Addr} {o : MO} (h : u a = some o) (h2 : u c = none) : c ≠ a := by
  intro e
  rw [e, h] at h2
  cases h2
section
variable {w w' : Wd} {g : GA} {n l m : Nat} {f f' : Str → Option D} {k tb : Addr} {rows : List D} {ats : List Int} {calls table : List Nat}
theorem GX.other (h : GX w g n l m f k tb rows ats calls table) {a : Addr} {o : MO} (h1 : a ∉ g.mut) (h2 : a ≠ g.q) (h3 : a ≠ k) (h4 : a ≠ tb) : GX (updW w a o) g n l m f k tb rows ats calls table :=
  { h with
    dict := by rw [updW_ne (Ne.symm (nmut h1).1)]; exact h.dict
    code := by rw [updW_ne (Ne.symm (nmut h1).2.2.1)]; exact h.code
    ats := by rw [updW_ne (Ne.symm (nmut h1).2.2.2)]; exact h.ats
    calls := by rw [updW_ne (Ne.symm h3)]; exact h.calls
    table := by rw [updW_ne (Ne.symm h4)]; exact h.table
    draw := h.draw.keep fun b hb u q => by
      rcases hb with rfl | rfl
      · rw [updW_ne (Ne.symm (nmut h1).2.1)]; exact q
      · rw [updW_ne (Ne.symm h2)]; exact q }
theorem GW.take (h : GW w g n l m) : DrawAt w g.d g.q ∧ ∀ w', DrawAt w' g.d g.q → DF g.d w w' → GW w' g n l m ∧ GF g w w' := by
  obtain ⟨f, k, tb, rows, ats, calls, table, X⟩ := h
  exact ⟨X.draw, fun w' A e => ⟨(X.drawn e A).gw, GF.df e⟩⟩
theorem GW.setcalls (h : GW w g n l m) : ∃ f, w g.p = some (.dct 6 f) ∧ (f "calls").isSome = true ∧ ∀ (w' : Wd) (a : Addr) (cs : List Nat), LE w w' → w' a = some (.lst (natsD cs)) → a ∉ g.mut → cs.length ≤ 10 → (∀ x ∈ cs, x < m) → GW (updW w' g.p (.dct 6 (putF f "calls" (.ref a)))) g n l m := by
  obtain ⟨f, k, tb, rows, ats, calls, table, X⟩ := h
  refine ⟨f, X.dict, by rw [X.fk]; rfl, fun w' a cs le ha hm h1 h2 => ?_⟩
  have X2 := X.mono le
  exact (X2.dct (f' := putF f "calls" (.ref a)) (n' := n) ⟨(pf_ne (by decide)).trans X.fd, (pf_ne (by decide)).trans X.fc, (pf_ne (by decide)).trans X.ft, pf_same, (pf_ne (by decide)).trans X.fb, (pf_ne (by decide)).trans X.fl⟩ ha X2.table hm X.bn h1 h2 X.to (Nat.le_refl n) X.l3).gw
end
theorem gen_start {w1 : Wd} {d q p c t k b : Addr} {D0 : MO} (A : DrawAt w1 d q) (hp : w1 p = none) (hc : updW w1 p D0 c = none) (ht : updW (updW w1 p D0) c (.lst []) t = none) (hk : updW (updW (updW w1 p D0) c (.lst [])) t (.lst []) k = none) (hb : updW (updW (updW (updW w1 p D0) c (.lst [])) t (.lst [])) k (.lst []) b = none) :
    LE w1 (updW (updW (updW (updW (updW (updW w1 p D0) c (.lst [])) t (.lst [])) k (.lst [])) b (.lst [])) p (.dct 6 (mkF ["draw", "code", "at", "calls", "table", "left"] [.ref d, .ref c, .ref t, .ref k, .ref b, .int 10]))) ∧
    GW (updW (updW (updW (updW (updW (updW w1 p D0) c (.lst [])) t (.lst [])) k (.lst [])) b (.lst [])) p (.dct 6 (mkF ["draw", "code", "at", "calls", "table", "left"] [.ref d, .ref c, .ref t, .ref k, .ref b, .int 10]))) ⟨p, d, q, c, t⟩ 0 10 0 ∧ w1 c = none ∧ w1 t = none := by
  obtain ⟨hn, cells, i, x, s, hd, hq, r1, r2, r3, r4⟩ := A
  obtain ⟨c_p, hc1⟩ := fresh_ne hc
  obtain ⟨t_c, ht2⟩ := fresh_ne ht
  obtain ⟨t_p, ht1⟩ := fresh_ne ht2
  obtain ⟨k_t, hk3⟩ := fresh_ne hk
  obtain ⟨k_c, hk2⟩ := fresh_ne hk3
  obtain ⟨k_p, hk1⟩ := fresh_ne hk2
  obtain ⟨b_k, hb4⟩ := fresh_ne hb
  obtain ⟨b_t, hb3⟩ := fresh_ne hb4
  obtain ⟨b_c, hb2⟩ := fresh_ne hb3
  obtain ⟨b_p, hb1⟩ := fresh_ne hb2
  have le : LE w1 (updW (updW (updW (updW (updW (updW w1 p D0) c (.lst [])) t (.lst [])) k (.lst [])) b (.lst [])) p (.dct 6 (mkF ["draw", "code", "at", "calls", "table", "left"] [.ref d, .ref c, .ref t, .ref k, .ref b, .int 10]))) := by
    intro a o ha
    have n1 : a ≠ p := Ne.symm (ne_none ha hp)
    have n2 : a ≠ c := Ne.symm (ne_none ha hc1)
    have n3 : a ≠ t := Ne.symm (ne_none ha ht1)
    have n4 : a ≠ k := Ne.symm (ne_none ha hk1)
    have n5 : a ≠ b := Ne.symm (ne_none ha hb1)
    rw [updW_ne n1, updW_ne n5, updW_ne n4, updW_ne n3, updW_ne n2, updW_ne n1]
    exact ha
  have p_d : p ≠ d := ne_none hd hp
  have p_q : p ≠ q := ne_none hq hp
  have c_d : c ≠ d := ne_none hd hc1
  have c_q : c ≠ q := ne_none hq hc1
  have t_d : t ≠ d := ne_none hd ht1
  have t_q : t ≠ q := ne_none hq ht1
  have k_d : k ≠ d := ne_none hd hk1
  have b_d : b ≠ d := ne_none hd hb1
  refine ⟨le, ⟨mkF ["draw", "code", "at", "calls", "table", "left"] [.ref d, .ref c, .ref t, .ref k, .ref b, .int 10], k, b, [], [], [], [], ?_⟩, hc1, ht1⟩
  exact {
    dict := updW_same
    fd := rfl
    fc := rfl
    ft := rfl
    fk := rfl
    fb := rfl
    fl := rfl
    code := by
      show updW _ _ _ c = _
      rw [updW_ne c_p, updW_ne (Ne.symm b_c), updW_ne (Ne.symm k_c), updW_ne (Ne.symm t_c), updW_same]
    ats := by
      show updW _ _ _ t = _
      rw [updW_ne t_p, updW_ne (Ne.symm b_t), updW_ne (Ne.symm k_t), updW_same]
      rfl
    calls := by
      rw [updW_ne k_p, updW_ne (Ne.symm b_k), updW_same]
      rfl
    table := by
      rw [updW_ne b_p, updW_same]
      rfl
    draw := DrawAt.keep ⟨hn, cells, i, x, s, hd, hq, r1, r2, r3, r4⟩ fun a _ o h => le a o h
    kn := nmut_of ⟨k_p, k_d, k_c, k_t⟩
    bn := nmut_of ⟨b_p, b_d, b_c, b_t⟩
    ok := ⟨p_d, p_q, Ne.symm c_p, Ne.symm t_p, Ne.symm c_d, Ne.symm t_d, Ne.symm c_q, Ne.symm t_q, Ne.symm t_c⟩
    l1 := Nat.le_refl 0
    l2 := rfl
    l2' := Nat.le_refl 0
    l3 := Nat.le_refl 0
    l4 := Nat.zero_le _
    ro := fun r hr => by cases hr
    ao := fun r hr => by cases hr
    co := fun r hr => by cases hr
    to := fun r hr => by cases hr }
section
variable {P : Program} {w : World} {K : PySem.W.Frag} {mg : Str → Option Value} {base : Heap}
def fLabelX : DSp := fun ds w P => ∃ g n l m f k tb rows ats calls table, ds = [.ref g.p] ∧ GX w g n l m f k tb rows ats calls table ∧ n ≤ 1700 ∧ P (.int (m : Nat)) (updW w g.t (.lst ((ats ++ [-1]).map D.int)))
theorem okX__law_label (T : Tx K mg) : Kp P w K mg base 1 "_law_label" ["_law_p"] fLabelX := by
  have sc := sc__law_label
  obtain ⟨f, fd, hm, FD⟩ := T.has 32 (i := 43) (x := "_law_label") rfl
  refine kp_of FD hm sc (fun _ _ _ _ _ _ us hl => match us, hl with | [_], _ => rfl) fun cdv A outer s H E hr => ⟨_, (wss_cons (ws_expr (we_app (we_get hr (we_var 0)) (we_neg we_int)))
    (wss_one (ws_ret (we_sub (we_len (T.fre 0 rfl) (wa_cons (we_get hr (we_var 0)) wa_nil)) we_int)))), fun ds wd Q hl hF => ?_⟩
  obtain ⟨g, n, l, m, f, k, tb, rows, ats, calls, table, rfl, X, hn, q⟩ := hF
  have hn2 := X.l2'
  refine ⟨6, f, _, X.dict, X.ft, ⟨_, _, rfl, X.ats⟩, _, X.ats, ?_, 6, f, _, ?_, X.ft, _, updW_same, le_w ?_⟩
  · rw [List.length_map, X.l2]
    exact Nat.lt_of_le_of_lt (show m ≤ 1700 by omega) (by decide)
  · rw [updW_ne X.ok.pt]
    exact X.dict
  · rw [List.map_append] at q
    refine qi q ?_
    show (((ats.map D.int ++ [_]).length : Nat) : Int) - 1 = _
    rw [List.length_append, List.length_map, X.l2, List.length_singleton]
    omega

theorem sc__law_image : FnScope ["_law_draw_here", "_law_left", "_law_base", "_law_p", "_law_functions", "_law_k", "_law_words", "_law_table", "_law_data", "_law_segments", "_law_symbols", "_law_label_here"] ["_law_draw_here", "_law_left"] (defScope (top 59)) := ⟨rfl, rfl, rfl, by decide +kernel, rfl, by decide +kernel, by decide +kernel⟩
def fLImage : DSp := fun ds w P => ∃ d q, ds = [.ref d, .int 10] ∧ DrawAt w d q ∧ ∀ I w', ImgOk I → DrawAt w' d q → DF d w w' → P (imgD I) w'
theorem ok__law_image (T : Tx K mg) (k__law_take : Kp P w K mg base 1 "_law_take" ["_law_draw_here", "_law_many"] fTake) (k__law_set : Kp P w K mg base 2 "_law_set" ["_law_p", "_law_number", "_law_value"] fSet) (k__law_label : Kp P w K mg base 1 "_law_label" ["_law_p"] fLabelX) (k__law_rows : Kp P w K mg base 10 "_law_rows" ["_law_p", "_law_depth"] (fRows 2))
    (k__law_put_word : Kp P w K mg base 1 "_law_put_word" ["_law_p", "_law_row"] fPut) (k__law_here : Kp P w K mg base 1 "_law_here" ["_law_p", "_law_label_here"] fHere) (k__law_code_words : Kp P w K mg base 3 "_law_code_words" ["_law_p"] fCode) (k__law_values : Kp P w K mg base 2 "_law_values" ["_law_words"] fValues) : Kp P w K mg base 11 "_law_image" ["_law_draw_here", "_law_left"] fLImage := by
  have sc := sc__law_image
  obtain ⟨f, fd, hm, FD⟩ := T.has 48 (i := 59) (x := "_law_image") rfl
  refine kp_of FD hm sc (fun _ _ _ _ _ _ us hl => match us, hl with | [_, _], _ => rfl) fun cdv A outer s H E hr => ⟨_, (wss_cons (ws_set (i := 2) sc.nd (we_ix (we_lst (wa_cons we_int (wa_cons we_int (wa_cons (we_pow we_int we_int) (wa_cons (we_pow we_int we_int) wa_nil))))) (we_call (k__law_take.mono (by decide)) hr (wa_cons (we_var 0) (wa_cons we_int wa_nil)))))
    (wss_cut (ws_set (i := 3) sc.nd (we_disp (keys := ["draw", "code", "at", "calls", "table", "left"]) (wp_cons (we_var 0) (wp_cons (we_lst wa_nil) (wp_cons (we_lst wa_nil) (wp_cons (we_lst wa_nil) (wp_cons (we_lst wa_nil) (wp_cons (we_var 1) wp_nil)))))) rfl))
    (wss_cons (ws_expr (we_call (k__law_set.mono (by decide)) hr (wa_cons (we_var 3) (wa_cons we_int (wa_cons (we_add (we_var 2) we_int) wa_nil)))))
    (wss_cons (ws_expr (we_call (k__law_set.mono (by decide)) hr (wa_cons (we_var 3) (wa_cons we_int (wa_cons (we_add (we_var 2) we_int) wa_nil)))))
    (wss_cons (ws_set (i := 4) sc.nd (we_lst wa_nil))
    (wss_cons (ws_forR (i := 5) PassesOwn.never (by rfl) sc.nd (T.fre 1 rfl) (we_call (k__law_take.mono (by decide)) hr (wa_cons (we_var 0) (wa_cons we_int wa_nil))) (wss_one (ws_expr (we_app (we_var 4) (we_call (k__law_label.mono (by decide)) hr (wa_cons (we_var 3) wa_nil))))))
    (wss_cons (ws_put hr (we_var 4) (we_var 3))
    (wss_cons (ws_expr (we_call (k__law_rows.mono (by decide)) hr (wa_cons (we_var 3) (wa_cons we_int wa_nil))))
    (wss_cons (ws_expr (we_call (k__law_put_word.mono (by decide)) hr (wa_cons (we_var 3) (wa_cons (we_tup (wa_cons we_str (wa_cons (we_add we_int (we_call (k__law_take.mono (by decide)) hr (wa_cons (we_var 0) (wa_cons we_int wa_nil)))) wa_nil))) wa_nil))))
    (wss_cons (ws_forR (i := 5) PassesOwn.never (by rfl) sc.nd (T.fre 1 rfl) (we_len (T.fre 0 rfl) (wa_cons (we_var 4) wa_nil)) (wss_cons (ws_put hr (we_lst wa_nil) (we_var 3))
    (wss_cons (ws_expr (we_call (k__law_here.mono (by decide)) hr (wa_cons (we_var 3) (wa_cons (we_ix (we_var 4) (we_var 5)) wa_nil))))
    (wss_cons (ws_put hr (we_min (by rfl) (T.fre 6 rfl) (wa_cons we_int (wa_cons (we_var 1) wa_nil))) (we_var 3))
    (wss_cons (ws_expr (we_call (k__law_rows.mono (by decide)) hr (wa_cons (we_var 3) (wa_cons we_int wa_nil))))
    (wss_one (ws_expr (we_call (k__law_put_word.mono (by decide)) hr (wa_cons (we_var 3) (wa_cons (we_tup (wa_cons we_str (wa_cons we_int (wa_cons we_int (wa_cons we_int wa_nil))))) wa_nil))))))))))
    (wss_cons (ws_set (i := 6) sc.nd (we_call (k__law_code_words.mono (by decide)) hr (wa_cons (we_var 3) wa_nil)))
    (wss_cons (ws_set (i := 7) sc.nd (we_add (we_lcL (by rfl) sc.nd (we_get hr (we_var 3)) (blkOk_by (N := ["_law_draw_here", "_law_left", "_law_base", "_law_p", "_law_functions", "_law_k", "_law_words", "_law_table", "_law_data", "_law_segments", "_law_symbols", "_law_label_here"]) (sc := defScope (top 59)) (own := [("_law_label_here", 11)]) (by decide +kernel)) (fun _ _ _ _ _ => pg_name (i := 11) sc.nd rfl (.inl rfl)) (fun _ _ _ _ _ => (we_add (we_var 2) (we_mul we_int (we_ix (we_get hr (we_var 3)) (we_var 11)))))) (we_lst (wa_cons (we_var 2) (wa_cons we_int (wa_cons (we_call (k__law_take.mono (by decide)) hr (wa_cons (we_var 0) (wa_cons (we_pow we_int we_int) wa_nil))) wa_nil))))))
    (wss_cons (ws_setLcR (j := 8) (by rfl) sc.nd (T.fre 1 rfl) rfl (sw_true rfl rfl rfl (by decide +kernel)) we_int (blkOk_by (N := ["_law_draw_here", "_law_left", "_law_base", "_law_p", "_law_functions", "_law_k", "_law_words", "_law_table", "_law_data", "_law_segments", "_law_symbols", "_law_label_here"]) (sc := defScope (top 59)) (own := [("_law_k", 5)]) (by decide +kernel)) (fun _ _ _ _ _ => pg_name (i := 5) sc.nd rfl (.inl rfl)) (fun _ _ _ _ _ => (we_call (k__law_take.mono (by decide)) hr (wa_cons (we_var 0) (wa_cons we_int wa_nil)))))
    (wss_cons (ws_set (i := 9) sc.nd (we_tup (wa_cons (we_tup (wa_cons (we_var 2) (wa_cons (we_call (k__law_values.mono (by decide)) hr (wa_cons (we_var 6) wa_nil)) (wa_cons we_bl (wa_cons we_bl wa_nil))))) (wa_cons (we_tup (wa_cons (we_add (we_var 2) we_int) (wa_cons (we_tupOf (T.fre 2 rfl) (wa_cons (we_var 8) wa_nil)) (wa_cons we_bl (wa_cons we_bl wa_nil))))) (wa_cons (we_tup (wa_cons (we_add (we_var 2) we_int) (wa_cons (we_call (k__law_values.mono (by decide)) hr (wa_cons (we_var 7) wa_nil)) (wa_cons we_bl (wa_cons we_bl wa_nil))))) wa_nil)))))
    (wss_cons (ws_set (i := 10) sc.nd (we_tup (wa_cons (we_tup (wa_cons (we_var 2) (wa_cons we_str wa_nil))) (wa_cons (we_tup (wa_cons (we_add (we_var 2) we_int) (wa_cons we_str wa_nil))) (wa_cons (we_tup (wa_cons (we_add (we_var 2) we_int) (wa_cons we_str wa_nil))) wa_nil)))))
    (wss_one (ws_ret (we_tup (wa_cons (we_var 9) (wa_cons (we_var 2) (wa_cons (we_var 10) wa_nil))))))))))))))))))))), fun ds wd Q hl hF => ?_⟩
  obtain ⟨d, q, rfl, A, kk⟩ := hF
  have pw : ∀ j : Int, 0 ≤ j → j ≤ 40 → CPow 2 j := fun j h0 h1 => cpow h0 (by omega) (by decide) (by decide)
  refine ⟨pw 20 (by decide) (by decide), pw 31 (by decide) (by decide), sz rfl, fun a ha => ⟨rfl, d, q, 4, rfl, by decide, by decide, A.keep (fun b _ o h => LE.new ha b o h), fun v w1 v0 v1 A1 df1 => ?_⟩⟩
  have ad : a ≠ d := by
    obtain ⟨_, _, _, _, _, hd, _⟩ := A
    exact ne_none hd ha
  have h1 := df1 a _ ad updW_same
  have dfa : DF d wd w1 := (DF.le (LE.new ha)).trans df1
  obtain ⟨b0, hb, b1, b2⟩ := pick_int (ns := [64, 4096, 1048576, 2147483648]) (lo := 64) (hi := 2147483648) (by decide) v0 v1
  refine ⟨_, _, h1, hb, fun ρ w' => ∃ g : GA, ρ = [some (.ref d), some (.int 10), some (.int b0), some (.ref g.p), none, none, none, none, none, none, none, none] ∧ g.d = d ∧ g.q = q ∧ wd g.p = none ∧ wd g.c = none ∧ wd g.t = none ∧ DF d wd w' ∧ GW w' g 0 10 0, ?_, ?_⟩
  · have back : ∀ c, c ≠ d → w1 c = none → wd c = none := by
      intro c hc h
      cases e : wd c with
      | none => rfl
      | some u => rw [dfa c u hc e] at h; cases h
    have dne : ∀ c, w1 c = none → c ≠ d := by
      intro c h
      obtain ⟨_, _, _, _, _, hd, _⟩ := A1
      exact ne_none hd h
    refine fun p hp => ⟨sz rfl, fun c hc => ⟨sz rfl, fun t ht => ⟨sz rfl, fun k hk => ⟨sz rfl, fun b hb => ⟨⟨_, ((LE.new hc).trans ((LE.new ht).trans ((LE.new hk).trans (LE.new hb)))) _ _ updW_same⟩, rfl, by decide, by decide, ?_⟩⟩⟩⟩⟩
    obtain ⟨le, W, hc1, ht1⟩ := gen_start A1 hp hc ht hk hb
    exact ⟨⟨p, d, q, c, t⟩, rfl, rfl, rfl, back p (dne p hp) hp, back c (dne c hc1) hc1, back t (dne t ht1) ht1, dfa.trans (DF.le le), W⟩
  · rintro ρ w2 ⟨g, rfl, rfl, rfl, gp, gc, gt, df2, W2⟩
    have lift : ∀ {u u' : Wd}, DF g.d wd u → GF g u u' → DF g.d wd u' := by
      intro u u' h1 h2 c o hc e
      refine h2 c o (nmut_of ⟨?_, hc, ?_, ?_⟩) (h1 c o hc e)
      · exact Ne.symm (ne_none e gp)
      · exact Ne.symm (ne_none e gc)
      · exact Ne.symm (ne_none e gt)
    refine ⟨rfl, g, 0, 10, 0, 10, b0 + 2048, rfl, by decide, by decide, by omega, by omega, W2, by decide, fun w3 f3 W3 => ⟨rfl, g, 2, 10, 0, 11, b0 + 4096, rfl, by decide, by decide, by omega, by omega, W3, by decide, fun w4 f4 W4 => ⟨sz rfl, fun fa hfa => ?_⟩⟩⟩
    have df4 := lift (lift df2 f3) f4
    obtain ⟨f, k, tb, rows, ats, calls, table, X4⟩ := W4
    have X5 := X4.mono (LE.new (o := .lst []) hfa)
    have famut : fa ∉ g.mut := X4.gw.fresh hfa
    have fk : fa ≠ k := ne_none X4.calls hfa
    have ftb : fa ≠ tb := ne_none X4.table hfa
    have fq : fa ≠ g.q := by
      obtain ⟨_, _, _, _, _, _, hq, _⟩ := X4.draw
      exact ne_none hq hfa
    have df5 : DF g.d wd (updW w4 fa (.lst [])) := df4.trans (DF.le (LE.new hfa))
    have fawd : wd fa = none := by
      cases e : wd fa with
      | none => rfl
      | some u => rw [df4 fa u (nmut famut).2.1 e] at hfa; cases hfa
    refine ⟨rfl, g.d, g.q, 3, rfl, by decide, by decide, X5.draw, fun v w6 v0 v1 A6 df6 => ⟨by omega, by omega, fun j ρ w' => ∃ (rows : List D) (ats : List Int) (fs : List Nat) (x : Option D), ρ = [some (.ref g.d), some (.int 10), some (.int b0), some (.ref g.p), some (.ref fa), x, none, none, none, none, none, none] ∧ GX w' g (4 + j) 10 j f k tb rows ats calls table ∧ w' fa = some (.lst (natsD fs)) ∧ fs.length = j ∧ (∀ x ∈ fs, x < j) ∧ DF g.d wd w', ?_, ?_, ?_⟩⟩
    · exact ⟨rows, ats, [], none, rfl, X5.drawn df6 A6, df6 _ _ (nmut famut).2.1 updW_same, rfl, (by intro x hx; cases hx), df5.trans df6⟩
    · rintro j ρ w7 hj ⟨rows, ats, fs, x, rfl, X7, h7, hl7, hx7, df7⟩
      have hj3 : j < 3 := by omega
      refine ⟨⟨_, _, rfl, h7⟩, rfl, g, 4 + j, 10, j, f, k, tb, rows, ats, calls, table, rfl, X7, by omega, ?_⟩
      have X8 := X7.label
      refine ⟨_, (updW_ne (nmut famut).2.2.2).trans h7, ?_, ?_⟩
      · show (natsD fs).length < _
        unfold natsD
        rw [List.length_map, hl7]
        exact Nat.lt_trans hj3 (by decide)
      · refine ⟨rows, ats ++ [-1], fs ++ [j], _, rfl, X8.other famut fq fk ftb, ?_, ?_, ?_, ?_⟩
        · rw [updW_same]
          unfold natsD
          rw [List.map_append]
          rfl
        · rw [List.length_append, hl7]
          rfl
        · intro y hy
          rcases List.mem_append.mp hy with h | h
          · exact Nat.lt_succ_of_lt (hx7 y h)
          · rw [List.mem_singleton.mp h]; exact Nat.lt_succ_self j
        · intro c o hc e
          rw [updW_ne (Ne.symm (ne_none e fawd)), updW_ne (Ne.symm (ne_none e gt))]
          exact df7 c o hc e
    · rintro ρ w7 ⟨rows, ats, fs, x, rfl, X7, h7, hl7, hx7, df7⟩
      have hv3 : v.toNat < 3 := by omega
      generalize v.toNat = nf at X7 hl7 hx7 hv3
      have W8 := (X7.dct (f' := putF f "calls" (.ref fa)) (n' := 4 + nf) (l' := 10) (k' := fa) (tb' := tb) (calls' := fs) (table' := table) ⟨(pf_ne (by decide)).trans X7.fd, (pf_ne (by decide)).trans X7.fc, (pf_ne (by decide)).trans X7.ft, pf_same, (pf_ne (by decide)).trans X7.fb, (pf_ne (by decide)).trans X7.fl⟩ h7 X7.table famut X7.bn (by omega) hx7 X7.to (Nat.le_refl _) X7.l3).gw
      have h8 : updW w7 g.p (.dct 6 (putF f "calls" (.ref fa))) fa = some (.lst (natsD fs)) := (updW_ne (nmut famut).1).trans h7
      refine ⟨6, f, 6, X7.dict, by decide, .inl ⟨rfl, by rw [X7.fk]; rfl⟩, rfl, 2, g, 4 + nf, 10, nf, by decide, rfl, W8, by omega, fun w9 n9 l9 m9 f9 W9 hm9 hl9 hp9 => ?_⟩
      have h9 := f9 fa _ famut h8
      have df9 := lift (lift df7 (GF.put (o := .dct 6 (putF f "calls" (.ref fa))) gm_p)) f9
      obtain ⟨A9, st9⟩ := W9.take
      refine ⟨rfl, g.d, g.q, 8, rfl, by decide, by decide, A9, fun v w10 v0 v1 A10 df10 => ?_⟩
      obtain ⟨W10, f10⟩ := st9 w10 A10 df10
      refine ⟨sz rfl, rfl, g, n9, l9, m9, _, rfl, row_1 (k := 37) (by decide) (iok1 (by decide) (by decide) (by omega) (by omega)), W10, by omega, fun w11 f11 W11 => ?_⟩
      have h11 := f11 fa _ famut (f10 fa _ famut h9)
      have df11 := lift (lift df9 f10) f11
      have lenfs : (((natsD fs).length : Nat) : Int) = (fs.length : Int) := by unfold natsD; rw [List.length_map]
      refine ⟨_, h11, by rw [lenfs]; omega, by rw [lenfs]; omega, fun j ρ w' => ∃ n' l' m' x, ρ = [some (.ref g.d), some (.int 10), some (.int b0), some (.ref g.p), some (.ref fa), x, none, none, none, none, none, none] ∧ GF g w11 w' ∧ GW w' g n' l' m' ∧ nf ≤ m' ∧ n' ≤ 130 + 60 * j, ⟨n9 + 1, l9, m9, _, rfl, GF.refl _ _, W11, hm9, by omega⟩, ?_, ?_⟩
      · rintro j ρ w12 hj ⟨n', l', m', x, rfl, f12, W12, hm', hn'⟩
        have hj2 : j < fs.length := by
          rw [lenfs] at hj
          omega
        obtain ⟨f0, s1, s2, s3⟩ := W12.setcalls
        refine ⟨sz rfl, fun e he => ?_⟩
        have W13 := s3 _ e [] (LE.new he) updW_same (W12.fresh he) (Nat.zero_le _) (by intro x hx; cases hx)
        have f13 : GF g w12 (updW (updW w12 e (.lst (natsD []))) g.p (.dct 6 (putF f0 "calls" (.ref e)))) := (GF.le (LE.new he)).trans (GF.put gm_p)
        have h13 := f13 fa _ famut (f12 fa _ famut h11)
        have hat : atI (natsD fs) ((j : Nat) : Int) = some (.int ((fs[j] : Nat) : Int)) := atI_map (f := fun x : Nat => D.int (x : Int)) (List.getElem?_eq_getElem hj2)
        refine ⟨6, f0, 6, LE.new he _ _ s1, by decide, .inl ⟨rfl, s2⟩, _, _, h13, hat, rfl, g, n', l', m', fs[j], rfl, Nat.lt_of_lt_of_le (hx7 _ (List.getElem_mem hj2)) hm', W13, by omega, fun w14 f14 W14 => ?_⟩
        obtain ⟨f1, t1, t2, t3, t4⟩ := W14.left
        have W15 : GW (updW w14 g.p (.dct 6 (putF f1 "left" (.int (if (10 : Int) < 4 then 10 else 4))))) g n' 4 m' := t4 4
        refine ⟨6, f1, 6, t1, by decide, .inl ⟨rfl, t3⟩, rfl, 1, g, n', 4, m', by decide, rfl, W15, by omega, fun w16 n16 l16 m16 f16 W16 hm16 hl16 hp16 => ⟨sz rfl, rfl, g, n16, l16, m16, _, rfl, row_3 (k := 34) (by decide) (by decide) (by decide) (iok3 (by decide) (by decide) (by decide) (by decide) (by decide) (by decide) (by decide) (by decide) (by decide)), W16, by omega, fun w17 f17 W17 => ?_⟩⟩
        exact ⟨n16 + 1, l16, m16, _, rfl, f12.trans (f13.trans (f14.trans ((GF.put gm_p).trans (f16.trans f17)))), W17, by omega, by omega⟩
      · rintro ρ w12 ⟨n', l', m', x, rfl, f12, W12, hm', hn'⟩
        rw [lenfs] at hn'
        have df12 := lift df11 f12
        refine ⟨rfl, g, n', l', m', rfl, W12, by omega, fun wa ws w13 le13 wan hwa hww hwl => ?_⟩
        have df13 := df12.trans (DF.le (d := g.d) le13)
        obtain ⟨f, k, tb, rows, ats, calls, table, X⟩ := W12.mono le13
        refine ⟨6, f, _, X.dict, X.fb, natsD table, .inr ⟨_, rfl, X.table⟩, fun p1 hp1 => ⟨fun j w' => ∃ acc : List Int, w' = updW w13 p1 (.lst (acc.map D.int)) ∧ acc.length = j ∧ ∀ x ∈ acc, Word x, ⟨[], rfl, rfl, (by intro x hx; cases hx)⟩, ?_, ?_, ?_⟩⟩
        · rintro j w' c e hj ⟨acc, rfl, _⟩
          cases e
          exact LE.new hp1 _ _ X.table
        · rintro j y w' hy ⟨acc, rfl, hal, haw⟩
          have hy' : (table.map fun x : Nat => D.int (x : Int))[j]? = some y := hy
          rw [List.getElem?_map] at hy'
          cases ht : table[j]? with
          | none => rw [ht] at hy'; cases hy'
          | some lab =>
            rw [ht] at hy'
            cases hy'
            have hlab : lab < ats.length := by rw [X.l2]; exact X.to _ (List.mem_of_getElem? ht)
            obtain ⟨t0, t1⟩ := X.ao _ (List.getElem_mem hlab)
            have X2 := X.mono (LE.new (o := .lst (acc.map D.int)) hp1)
            refine ⟨6, f, _, X2.dict, X.ft, _, _, X2.ats, atI_intsD (List.getElem?_eq_getElem hlab), .inl ⟨by decide, by decide⟩, acc.map D.int, updW_same, ?_, acc ++ [b0 + 4 * ats[lab]], ?_, ?_, ?_⟩
            · rw [List.length_map, hal]
              have := (List.getElem?_eq_some_iff.mp ht).1
              have := X.l3
              exact Nat.lt_of_lt_of_le (show j < 2000 by omega) (sz2 (by omega))
            · rw [updW_updW, List.map_append]
              rfl
            · rw [List.length_append, hal]
              rfl
            · intro z hz
              rcases List.mem_append.mp hz with h | h
              · exact haw z h
              · rw [List.mem_singleton.mp h]
                exact ⟨by omega, by omega⟩
        · rintro w' ⟨acc, rfl, hal, haw⟩
          have hacl : acc.length ≤ 1700 := by
            rw [hal]
            unfold natsD
            rw [List.length_map]
            have := X.l3
            omega
          have X2 := X.mono (LE.new (o := .lst (acc.map D.int)) hp1)
          have q32 : (2 : Int) ^ (32 : Int).toNat = 4294967296 := rfl
          refine ⟨pw 32 (by decide) (by decide), rfl, g.d, g.q, 4294967296, rfl, by decide, by decide, X2.draw, fun v w14 v0 v1 A14 df14 => ⟨sz rfl, fun b hb => ?_⟩⟩
          have p1d : p1 ≠ g.d := by
            obtain ⟨_, _, _, _, _, hd, _⟩ := X.draw
            exact ne_none hd hp1
          have hp14 := df14 p1 _ p1d updW_same
          refine ⟨_, _, LE.new hb _ _ hp14, updW_same, ?_, fun c hc => ?_⟩
          · rw [List.length_map]
            exact sz2 (show acc.length + 3 ≤ _ by omega)
          have le15 : LE w14 (updW (updW w14 b (.lst [.int b0, .int 7, .int v])) c (.lst (acc.map D.int ++ [.int b0, .int 7, .int v]))) := (LE.new hb).trans (LE.new hc)
          have hc15 : updW (updW w14 b (.lst [.int b0, .int 7, .int v])) c (.lst (acc.map D.int ++ [.int b0, .int 7, .int v])) c = some (.lst ((acc ++ [b0, 7, v]).map D.int)) := by
            rw [updW_same, List.map_append]
            rfl
          have A15 := A14.keep fun a _ o h => le15 a o h
          have df15 := (df13.trans (DF.le (LE.new (o := .lst (acc.map D.int)) hp1))).trans (df14.trans (DF.le le15))
          have wa12 : wa ≠ g.d := by
            obtain ⟨_, _, _, _, _, hd, _⟩ := W12.take.1
            exact ne_none hd wan
          have hwa15 := le15 _ _ (df14 wa _ wa12 (LE.new (o := .lst (acc.map D.int)) hp1 _ _ hwa))
          have c_d : c ≠ g.d := by
            obtain ⟨_, _, _, _, _, hd, _⟩ := A14
            exact ne_none (LE.new hb _ _ hd) hc
          have tws : ∀ x ∈ acc ++ [b0, 7, v], Word x := by
            intro z hz
            rcases List.mem_append.mp hz with h | h
            · exact haw z h
            rcases List.mem_cons.mp h with rfl | h
            · exact ⟨by omega, by omega⟩
            rcases List.mem_cons.mp h with rfl | h
            · exact ⟨by decide, by decide⟩
            rw [List.mem_singleton.mp h]
            exact ⟨v0, v1⟩
          revert hc15 A15 df15 hwa15
          generalize updW (updW w14 b (.lst [.int b0, .int 7, .int v])) c (.lst (acc.map D.int ++ [.int b0, .int 7, .int v])) = w15
          intro hc15 A15 df15 hwa15
          refine ⟨by decide, by decide, fun p2 hp2 => ?_⟩
          have p2d : p2 ≠ g.d ∧ p2 ≠ g.q := by
            obtain ⟨_, _, _, _, _, hd, hq, _⟩ := A15
            exact ⟨ne_none hd hp2, ne_none hq hp2⟩
          refine ⟨fun j w' => ∃ dat : List Int, w' p2 = some (.lst (dat.map D.int)) ∧ dat.length = j ∧ (∀ x ∈ dat, Byte x) ∧ DrawAt w' g.d g.q ∧ ∀ a o, a ≠ g.d → a ≠ p2 → w15 a = some o → w' a = some o, ?_, ?_, ?_⟩
          · refine ⟨[], updW_same, rfl, (by intro x hx; cases hx), A15.keep (fun a _ o h => LE.new hp2 a o h), fun a o h1 h2 h3 => ?_⟩
            rw [updW_ne h2]
            exact h3
          · rintro j w' hj ⟨dat, hdat, hdl, hdb, AA, hfr⟩
            refine ⟨rfl, g.d, g.q, 256, rfl, by decide, by decide, AA, fun x w'' x0 x1 A2 df => ⟨dat.map D.int, df p2 _ p2d.1 hdat, ?_, dat ++ [x], ?_, ?_, ?_, ?_, ?_⟩⟩
            · rw [List.length_map, hdl]
              have hj' : j < 24 := hj
              exact Nat.lt_trans hj' (by decide)
            · rw [updW_same, List.map_append]
              rfl
            · rw [List.length_append, hdl]
              rfl
            · intro z hz
              rcases List.mem_append.mp hz with h | h
              · exact hdb z h
              · rw [List.mem_singleton.mp h]
                exact ⟨x0, x1⟩
            · refine A2.keep fun a ha o h => ?_
              rcases ha with rfl | rfl
              · rw [updW_ne (Ne.symm p2d.1)]; exact h
              · rw [updW_ne (Ne.symm p2d.2)]; exact h
            · intro a o h1 h2 h3
              rw [updW_ne h2]
              exact df a o h1 (hfr a o h1 h2 h3)
          · rintro w16 ⟨dat, hdat, hdl, hdb, A16, hfr⟩
            have hdl' : dat.length ≤ 24 := Nat.le_of_eq hdl
            have hwa16 := hfr wa _ wa12 (Ne.symm (ne_none hwa15 hp2)) hwa15
            have hc16 := hfr c _ c_d (Ne.symm (ne_none hc15 hp2)) hc15
            have df16 : DF g.d wd w16 := fun a o h1 h2 => hfr a o h1 (Ne.symm (ne_none (df15 a o h1 h2) hp2)) (df15 a o h1 h2)
            refine ⟨rfl, wa, ws, rfl, hwa16, hww, by omega, fun bs1 hb1 hl1 => ⟨sz rfl, _, hdat, sz rfl, rfl, c, acc ++ [b0, 7, v], rfl, hc16, tws, ?_, fun bs2 hb2 hl2 => ⟨sz rfl, sz rfl, sz rfl, sz rfl, sz rfl, sz rfl, sz rfl, le_w (kk ⟨[⟨b0, bs1, false, true⟩, ⟨b0 + 2048, dat, true, false⟩, ⟨b0 + 4096, bs2, false, false⟩], b0, _⟩ w16 ?_ A16 df16)⟩⟩⟩
            · rw [List.length_append]
              exact Nat.le_trans (Nat.add_le_add_right hacl 3) (by decide)
            · refine ⟨?_, ⟨by show (0 : Int) ≤ b0; omega, by show b0 < (4294967296 : Int); omega⟩, by show 3 ≤ 1000; decide, ?_⟩
              · intro s hs
                have hs' : s ∈ [Seg.mk b0 bs1 false true, Seg.mk (b0 + 2048) dat true false, Seg.mk (b0 + 4096) bs2 false false] := hs
                rcases List.mem_cons.mp hs' with rfl | hs'
                · exact ⟨by show (0 : Int) ≤ b0; omega, hb1⟩
                rcases List.mem_cons.mp hs' with rfl | hs'
                · exact ⟨by show (0 : Int) ≤ b0 + 2048; omega, hdb⟩
                rw [List.mem_singleton.mp hs']
                exact ⟨by show (0 : Int) ≤ b0 + 4096; omega, hb2⟩
              · intro s hs
                have hs' : s ∈ [Seg.mk b0 bs1 false true, Seg.mk (b0 + 2048) dat true false, Seg.mk (b0 + 4096) bs2 false false] := hs
                rcases List.mem_cons.mp hs' with rfl | hs'
                · exact Nat.le_trans hl1 (by decide)
                rcases List.mem_cons.mp hs' with rfl | hs'
                · exact Nat.le_trans hdl' (by decide)
                rw [List.mem_singleton.mp hs']
                exact Nat.le_trans hl2 (by decide)
end
end Rs
set_option maxHeartbeats 4000000
/-! The law. -/
namespace Rs
open PySem PySem.Spec PyProof.Rows L2
mutual
theorem eqv_self : ∀ d : PyData, d.canLay0 = true → PyData.eqv d d = true
  | .none, _ => by simp only [PyData.eqv]
  | .bool b, _ => by simp only [PyData.eqv, BEq.rfl]
  | .int i, _ => by simp only [PyData.eqv, BEq.rfl]
  | .str x, _ => by simp only [PyData.eqv, BEq.rfl]
  | .list xs, h => by
    simp only [PyData.canLay0] at h
    simp only [PyData.eqv]
    exact eqvAll_self xs h
  | .tuple xs, h => by
    simp only [PyData.canLay0] at h
    simp only [PyData.eqv]
    exact eqvAll_self xs h
  | .dict _, h => by
    simp only [PyData.canLay0] at h
    cases h
theorem eqvAll_self : ∀ xs : List PyData, PyData.canLayAll0 xs = true → PyData.eqvAll xs xs = true
  | [], _ => by simp only [PyData.eqvAll]
  | x :: xs, h => by
    simp only [PyData.canLayAll0, Bool.and_eq_true] at h
    simp only [PyData.eqvAll, Bool.and_eq_true]
    exact ⟨eqv_self x h.1, eqvAll_self xs h.2⟩
end
theorem ne_same {w : Wd} {xs ys : List D} {d : PyData} {P : D → Wd → Prop} (h1 : Dd w (.tup xs) d) (h2 : Dd w (.tup ys) d) (h3 : SeqAt.shaped d = true) (h : P (.bl false) w) : rNeD' (.tup xs) (.tup ys) w P := by
  refine ⟨d, d, h1, h2, h3, h3, ?_⟩
  rw [eqv_self d (SeqAt.canLay_of_shaped h3)]
  exact h
theorem eq_same {w : Wd} {a b : Addr} {d : PyData} {P : D → Wd → Prop} (h1 : Dd w (.ref a) d) (h2 : Dd w (.ref b) d) (h3 : SeqAt.shaped d = true) (h : P (.bl true) w) : rEqD' (.ref a) (.ref b) w P := by
  refine ⟨d, d, h1, h2, h3, h3, ?_⟩
  rw [eqv_self d (SeqAt.canLay_of_shaped h3)]
  exact h
def intsP (ns : List Int) : List PyData := ns.map PyData.int
theorem ints_lay : ∀ ns : List Int, PyData.canLayAll0 (intsP ns) = true
  | [] => by show PyData.canLayAll0 [] = true; simp only [PyData.canLayAll0]
  | n :: r => by
    show PyData.canLayAll0 (.int n :: intsP r) = true
    simp only [PyData.canLayAll0, PyData.canLay0, Bool.true_and]
    exact ints_lay r
theorem ints_depth : ∀ ns : List Int, PyData.depthAll (intsP ns) = 0
  | [] => by show PyData.depthAll [] = 0; simp only [PyData.depthAll]
  | n :: r => by
    show PyData.depthAll (.int n :: intsP r) = 0
    simp only [PyData.depthAll, PyData.depth]
    rw [ints_depth r]
    rfl
def memP (m : List (List Int)) : List PyData := m.map fun r => .tuple (intsP r)
theorem mem_lay : ∀ m : List (List Int), PyData.canLayAll0 (memP m) = true
  | [] => by show PyData.canLayAll0 [] = true; simp only [PyData.canLayAll0]
  | n :: r => by
    show PyData.canLayAll0 (.tuple (intsP n) :: memP r) = true
    simp only [PyData.canLayAll0, PyData.canLay0, Bool.and_eq_true]
    exact ⟨ints_lay n, mem_lay r⟩
theorem mem_depth : ∀ m : List (List Int), PyData.depthAll (memP m) ≤ 1
  | [] => by show PyData.depthAll [] ≤ 1; simp only [PyData.depthAll]; decide
  | n :: r => by
    show PyData.depthAll (.tuple (intsP n) :: memP r) ≤ 1
    simp only [PyData.depthAll, PyData.depth]
    rw [ints_depth n]
    have := mem_depth r
    omega
theorem mem_dd {w : Wd} : ∀ m : List (List Int), Dds w (m.map intsD) (memP m)
  | [] => .nil
  | n :: r => .cons (.tup (Dds.ints n)) (mem_dd r)
def msP (s : MS) : PyData := .tuple [.tuple (intsP s.regs), .int s.pc, .tuple (memP s.mem), .int (s.taken : Nat), .tuple (intsP s.out), enP s.en]
theorem ms_dd {w : Wd} (s : MS) : Dd w (msD s) (msP s) := .tup (.cons (.tup (Dds.ints _)) (.cons (.int _) (.cons (.tup (mem_dd _)) (.cons (.int _) (.cons (.tup (Dds.ints _)) (.cons (en_dd _) .nil))))))
theorem ms_sh (s : MS) : SeqAt.shaped (msP s) = true := by
  refine sh_of ?_ ?_
  · unfold msP
    simp only [PyData.canLay0, PyData.canLayAll0, Bool.and_true, Bool.true_and, Bool.and_eq_true]
    exact ⟨ints_lay _, mem_lay _, ints_lay _, en_lay _⟩
  · unfold msP
    simp only [PyData.depth, PyData.depthAll]
    rw [ints_depth, ints_depth, en_depth]
    have := mem_depth s.mem
    omega
def ansP (out : List Int) (e : En) (n : Int) : PyData := .tuple [.list (intsP out), enP e, .int n]
theorem ans_sh (out : List Int) (e : En) (n : Int) : SeqAt.shaped (ansP out e n) = true := by
  refine sh_of ?_ ?_
  · unfold ansP
    simp only [PyData.canLay0, PyData.canLayAll0, Bool.and_true, Bool.true_and, Bool.and_eq_true]
    exact ⟨ints_lay _, en_lay _⟩
  · unfold ansP
    simp only [PyData.depth, PyData.depthAll]
    rw [ints_depth, en_depth]
    decide
theorem ans_dd {w : Wd} {a : Addr} {out : List Int} {e : En} {n : Int} (h : w a = some (.lst (out.map D.int))) : Dd w (.tup [.ref a, enD e, .int n]) (ansP out e n) := .tup (.cons (.lst h (Dds.ints _)) (.cons (en_dd _) (.cons (.int _) .nil)))
theorem list_sh (ns : List Int) : SeqAt.shaped (.list (intsP ns)) = true := by
  refine sh_of ?_ ?_
  · simp only [PyData.canLay0]
    exact ints_lay _
  · simp only [PyData.depth]
    rw [ints_depth]
    decide
theorem MW.keep {w w' : Wd} {m : Addr} {F : MF} {s : MS} (h : MW w m F s) (k : ∀ a o, a = m ∨ a ∈ F.ls → w a = some o → w' a = some o) : MW w' m F s where
  dict := by
    obtain ⟨f, a, b⟩ := h.dict
    exact ⟨f, k _ _ (.inl rfl) a, b⟩
  r := k _ _ (.inr List.mem_cons_self) h.r
  o := k _ _ (.inr (List.mem_cons_of_mem _ List.mem_cons_self)) h.o
  g := k _ _ (.inr (List.mem_cons_of_mem _ (List.mem_cons_of_mem _ List.mem_cons_self))) h.g
  ml := h.ml
  rows := fun j a row ha hr => k _ _ (.inr (List.mem_cons_of_mem _ (List.mem_cons_of_mem _ (List.mem_cons_of_mem _ (List.mem_of_getElem? ha))))) (h.rows j a row ha hr)
  nd := h.nd
theorem MW.out_of {w : Wd} {m : Addr} {F : MF} {s : MS} (h : MW w m F s) {a : Addr} (ha : w a = none) : a ≠ m ∧ a ∉ F.ls := by
  refine ⟨?_, fun hm => ?_⟩
  · obtain ⟨f, hf, _⟩ := h.dict
    exact ne_none hf ha
  · obtain ⟨ds, e⟩ := h.mem_lst a hm
    rw [e] at ha
    cases ha
section
variable {P : Program} {w : World} {K : PySem.W.Frag} {mg : Str → Option Value} {base : Heap}

theorem fnok_of {x : Str} {params : Arguments} {body : List Stmt} {scope : Scope} {f : Addr} {fd : FuncData} {N ps : List Str} {k : Nat} {F : DSp} (D : FunD K x x params body scope [] [] f fd) (S : FnScope N ps scope)
    (hb : ∀ (kV doc pm : Value) (an : Option Addr) (cdv ct : Value) (us : List Value), us.length = ps.length → bindArgs (PySem.W.fnOf x x params body scope .none kV doc pm an cdv ct) ⟨us, []⟩ = pure (ps.zip us))
    (hbody : ∀ (cdv : Value) (A : Around) (outer : List Env) (s : Shared) (H : Hp) (E : XK), Room k (A.deeper (envOfC x scope s.heap.objs.size f cdv)) →
      ∃ T, WSs (cxOf CX0 P w K mg base N x scope f cdv A outer s H E).nox body T ∧ ∀ ds wd Q, ds.length = ps.length → F ds wd Q → T (endD Q) (startD N ds) wd) : FnOk P w K mg base CX0 (k + 1) f fd ps (spD K ps.length F) := by
  refine D.ok S (fun vs H Q E ⟨ds, _, _, r, _, hl, _⟩ => r.length.trans hl) fun cdv A outer s H vs Q E hr ⟨ds, wd, PP, r, W, hl, hF, k⟩ => ?_
  obtain ⟨T, h1, h2⟩ := hbody cdv A outer s H E hr
  exact ⟨_, h1.nox, startD N ds, wd, endD PP, relE_start r, W, h2 ds wd PP hl hF, sim_end k⟩
theorem sc_law : FnScope ["_law_script", "_law_draw_here", "_law_image_here", "_law_data", "_law_fuel", "_law_m", "_law_places", "_law_answer", "_law_k"] ["_law_script"] (defScope (top 72)) := ⟨rfl, rfl, rfl, by decide +kernel, rfl, by decide +kernel, by decide +kernel⟩
def fLaw : DSp := fun ds w P => ∃ cells : List Int, ds = [.rol (cells.map D.int)] ∧ cells.length ≤ 3000000 ∧ ∀ w', P (.bl true) w'
theorem ok_law {f : Addr} {fd : FuncData} (FD : FunD K "law" "law" (defArgs (top 72)) (defBody (top 72)) (defScope (top 72)) [] [] f fd) (T : Tx K mg) (k__law_draw : Kp P w K mg base 1 "_law_draw" ["_law_script"] fLDraw) (k__law_image : Kp P w K mg base 11 "_law_image" ["_law_draw_here", "_law_left"] fLImage) (k__law_take : Kp P w K mg base 1 "_law_take" ["_law_draw_here", "_law_many"] fTake) (k__law_begin : Kp P w K mg base 1 "_law_begin" ["_law_image_here"] fLBegin)
    (k__law_step : Kp P w K mg base 4 "_law_step" ["_law_image_here", "_law_data", "_law_m"] fLStep) (k_run : KpK P w K mg base 7 "run" ["image", "data", "fuel"] 2 ["fuel"] fRun) (k_last_state : KpK P w K mg base 7 "last_state" ["image", "data", "fuel"] 2 ["fuel"] fLast) (k__law_state : Kp P w K mg base 1 "_law_state" ["_law_m"] fLState)
    (k_trace : KpG P w K mg base 7 "trace" ["image", "data", "fuel"] 2 ["fuel"] fTrace) : FnOk P w K mg base CX0 12 f fd ["_law_script"] (spD K 1 fLaw) := by
  have sc := sc_law
  refine fnok_of FD sc (fun _ _ _ _ _ _ us hl => match us, hl with | [_], _ => rfl) fun cdv A outer s H E hr => ⟨_, (wss_cons (ws_set (i := 1) sc.nd (we_call (k__law_draw.mono (by decide)) hr (wa_cons (we_var 0) wa_nil)))
    (wss_cons (ws_set (i := 2) sc.nd (we_call (k__law_image.mono (by decide)) hr (wa_cons (we_var 1) (wa_cons we_int wa_nil))))
    (wss_cons (ws_setLcR (j := 3) (by rfl) sc.nd (T.fre 1 rfl) rfl (sw_true rfl rfl rfl (by decide +kernel)) (we_call (k__law_take.mono (by decide)) hr (wa_cons (we_var 1) (wa_cons we_int wa_nil))) (blkOk_by (N := ["_law_script", "_law_draw_here", "_law_image_here", "_law_data", "_law_fuel", "_law_m", "_law_places", "_law_answer", "_law_k"]) (sc := defScope (top 72)) (own := [("_law_k", 8)]) (by decide +kernel)) (fun _ _ _ _ _ => pg_name (i := 8) sc.nd rfl (.inl rfl)) (fun _ _ _ _ _ => (we_call (k__law_take.mono (by decide)) hr (wa_cons (we_var 1) (wa_cons we_int wa_nil)))))
    (wss_cons (ws_set (i := 4) sc.nd (we_ix (we_lst (wa_cons we_int (wa_cons we_int (wa_cons we_int (wa_cons (we_call (k__law_take.mono (by decide)) hr (wa_cons (we_var 1) (wa_cons we_int wa_nil))) wa_nil))))) (we_call (k__law_take.mono (by decide)) hr (wa_cons (we_var 1) (wa_cons we_int wa_nil)))))
    (wss_cut (ws_if (wt_eq hr (we_call (k__law_take.mono (by decide)) hr (wa_cons (we_var 1) (wa_cons we_int wa_nil))) we_int) (wss_one (ws_set (i := 2) sc.nd (we_tup (wa_cons (we_ix (we_var 2) we_int) (wa_cons (we_mod (we_intOf (T.fre 4 rfl) (wa_cons (we_add (we_ix (we_var 2) we_int) (we_ix (we_lst (wa_cons we_int (wa_cons we_int (wa_cons we_int (wa_cons (we_pow we_int we_int) wa_nil))))) (we_call (k__law_take.mono (by decide)) hr (wa_cons (we_var 1) (wa_cons we_int wa_nil))))) wa_nil)) (we_pow we_int we_int)) (wa_cons (we_ix (we_var 2) we_int) wa_nil)))))) wss_nil)
    (wss_cons (ws_set (i := 5) sc.nd (we_call (k__law_begin.mono (by decide)) hr (wa_cons (we_var 2) wa_nil)))
    (wss_cons (ws_set (i := 6) sc.nd (we_lst wa_nil))
    (wss_cut (ws_while PassesOwn.never (PW.pt (ww_and (wt_lt (we_len (T.fre 0 rfl) (wa_cons (we_var 6) wa_nil)) (we_var 4)) (ww_and1 (wt_eq hr (we_get hr (we_var 5)) (we_tup (wa_cons we_str wa_nil)))))) (wss_cons (ws_expr (we_app (we_var 6) (we_get hr (we_var 5))))
    (wss_one (ws_expr (we_call (k__law_step.mono (by decide)) hr (wa_cons (we_var 2) (wa_cons (we_var 3) (wa_cons (we_var 5) wa_nil))))))))
    (wss_cut (ws_set (i := 7) sc.nd (we_callK (k_run.mono (by decide)) hr (wa_cons (we_var 2) (wa_cons (we_if (wt_eq hr (we_call (k__law_take.mono (by decide)) hr (wa_cons (we_var 1) (wa_cons we_int wa_nil))) we_int) (we_tupOf (T.fre 2 rfl) (wa_cons (we_var 3) wa_nil)) (we_listOf (T.fre 3 rfl) (wa_cons (we_var 3) wa_nil))) wa_nil)) (wk_cons (we_var 4) wk_nil)))
    (wss_cons (ws_if (PW.pt (ww_or (wt_not (wt_val (we_isi (T.fre 7 rfl) (wa_cons (we_var 7) (wa_cons (we_tyTuple (T.fre 2 rfl)) wa_nil))))) (ww_or1 (wt_ne hr (we_var 7) (we_tup (wa_cons (we_get hr (we_var 5)) (wa_cons (we_get hr (we_var 5)) (wa_cons (we_len (T.fre 0 rfl) (wa_cons (we_var 6) wa_nil)) wa_nil)))))))) (wss_one (ws_ret we_bl)) wss_nil)
    (wss_cons (ws_if (wt_ne hr (we_callK (k_last_state.mono (by decide)) hr (wa_cons (we_var 2) (wa_cons (we_listOf (T.fre 3 rfl) (wa_cons (we_var 3) wa_nil)) wa_nil)) (wk_cons (we_var 4) wk_nil)) (we_call (k__law_state.mono (by decide)) hr (wa_cons (we_var 5) wa_nil))) (wss_one (ws_ret we_bl)) wss_nil)
    (wss_one (ws_ret (we_eq hr (we_listG k_trace (hr.mono (by decide)) (T.fre 3 rfl) (wa_cons (we_var 2) (wa_cons (we_listOf (T.fre 3 rfl) (wa_cons (we_var 3) wa_nil)) wa_nil)) (wk_cons (we_var 4) wk_nil)) (we_var 6))))))))))))))), fun ds wd Q hl hF => ?_⟩
  obtain ⟨cells, rfl, hcl, q⟩ := hF
  have pw : ∀ j : Int, 0 ≤ j → j ≤ 40 → CPow 2 j := fun j h0 h1 => cpow h0 (by omega) (by decide) (by decide)
  have q32 : (2 : Int) ^ (32 : Int).toNat = 4294967296 := rfl
  have z32 : (0 : Int) < 2 ^ (32 : Int).toNat := by rw [q32]; decide
  refine ⟨rfl, cells, rfl, hcl, fun d qq w1 A1 le1 _ _ => ⟨rfl, d, qq, rfl, A1, fun I w2 IO A2 df2 => ⟨rfl, d, qq, 5, rfl, by decide, by decide, A2, fun v w3 v0 v1 A3 df3 => ⟨by omega, by omega, fun da hda => ⟨fun j w' => ∃ dat : List Int, w' da = some (.lst (dat.map D.int)) ∧ dat.length = j ∧ (∀ x ∈ dat, Byte x) ∧ DrawAt w' d qq, ?_, ?_, ?_⟩⟩⟩⟩⟩
  · exact ⟨[], updW_same, rfl, (by intro x hx; cases hx), A3.keep fun a _ o h => LE.new hda a o h⟩
  · rintro j w4 hj ⟨dat, h4, hl4, hb4, A4⟩
    have dad : da ≠ d ∧ da ≠ qq := by
      obtain ⟨_, _, _, _, _, hd, hq, _⟩ := A3
      exact ⟨ne_none hd hda, ne_none hq hda⟩
    refine ⟨rfl, d, qq, 256, rfl, by decide, by decide, A4, fun x w5 x0 x1 A5 df5 => ⟨dat.map D.int, df5 da _ dad.1 h4, ?_, dat ++ [x], ?_, ?_, ?_, ?_⟩⟩
    · rw [List.length_map, hl4]
      exact Nat.lt_of_lt_of_le (show j < 5 by omega) (by decide)
    · rw [updW_same, List.map_append]
      rfl
    · rw [List.length_append, hl4]
      rfl
    · intro z hz
      rcases List.mem_append.mp hz with h | h
      · exact hb4 z h
      · rw [List.mem_singleton.mp h]
        exact ⟨x0, x1⟩
    · refine A5.keep fun a ha o h => ?_
      rcases ha with rfl | rfl
      · rw [updW_ne (Ne.symm dad.1)]; exact h
      · rw [updW_ne (Ne.symm dad.2)]; exact h
  · rintro w4 ⟨dat, h4, hl4, hb4, A4⟩
    have dad : da ≠ d := by
      obtain ⟨_, _, _, _, _, hd, hq, _⟩ := A3
      exact ne_none hd hda
    refine ⟨rfl, d, qq, 260, rfl, by decide, by decide, A4, fun x w5 x0 x1 A5 df5 => ⟨sz rfl, fun fl hfl => ⟨rfl, d, qq, 4, rfl, by decide, by decide, A5.keep fun a _ o h => LE.new hfl a o h, fun y w6 y0 y1 A6 df6 => ?_⟩⟩⟩
    have fld : fl ≠ d := by
      obtain ⟨_, _, _, _, _, hd, hq, _⟩ := A5
      exact ne_none hd hfl
    have h6 := df6 fl _ fld updW_same
    have hda6 := df6 da _ dad (LE.new (o := .lst [.int 0, .int 1, .int 260, .int x]) hfl _ _ (df5 da _ dad h4))
    obtain ⟨c, hc, c0, c1⟩ := pick_int (ns := [0, 1, 260, x]) (lo := 0) (hi := 260) (by
      intro z hz
      rcases List.mem_cons.mp hz with rfl | hz
      · exact ⟨by decide, by decide⟩
      rcases List.mem_cons.mp hz with rfl | hz
      · exact ⟨by decide, by decide⟩
      rcases List.mem_cons.mp hz with rfl | hz
      · exact ⟨by decide, by decide⟩
      rw [List.mem_singleton.mp hz]
      exact ⟨x0, by omega⟩) y0 y1
    obtain ⟨n, rfl⟩ := Int.eq_ofNat_of_zero_le c0
    refine ⟨_, _, h6, hc, fun ρ w' => ∃ I, ImgOk I ∧ ρ = [some (.rol (cells.map D.int)), some (.ref d), some (imgD I), some (.ref da), some (.int (n : Nat)), none, none, none, none] ∧ DrawAt w' d qq ∧ w' da = some (.lst (dat.map D.int)), ?_, ?_⟩
    · refine ⟨rfl, d, qq, 9, rfl, by decide, by decide, A6, fun z w7 _ _ A7 df7 => ⟨fun _ => ?_, fun _ => ⟨I, IO, rfl, A7, df7 da _ dad hda6⟩⟩⟩
      refine ⟨_, rfl, _, rfl, pw 31 (by decide) (by decide), sz rfl, fun e he => ⟨rfl, d, qq, 4, rfl, by decide, by decide, A7.keep fun a _ o h => LE.new he a o h, fun u w8 u0 u1 A8 df8 => ?_⟩⟩
      have ed : e ≠ d := by
        obtain ⟨_, _, _, _, _, hd, hq, _⟩ := A7
        exact ne_none hd he
      have h8 := df8 e _ ed updW_same
      obtain ⟨c2, hc2, _, _⟩ := pick_int (ns := [2, 4, 2048, 2147483648]) (lo := 2) (hi := 2147483648) (by decide) u0 u1
      refine ⟨_, _, h8, hc2, pw 32 (by decide) (by decide), z32, _, rfl, sz rfl, ⟨I.segs, (I.entry + c2) % 4294967296, I.sym⟩, ⟨IO.segs, mod_word _, IO.ns, IO.nv⟩, rfl, A8, df8 da _ dad (LE.new he _ _ (df7 da _ dad hda6))⟩
    · rintro ρ w7 ⟨I, IO, rfl, A7, hda7⟩
      have MO := at_ok (data := dat) IO hb4
      refine ⟨rfl, I, rfl, IO.ns, fun m F w8 W8 le8 fr8 => ⟨sz rfl, fun pl hpl => ?_⟩⟩
      have out_ : ∀ a o, w7 a = some o → a ≠ m ∧ a ∉ F.ls := by
        intro a o h
        refine ⟨fun e => ?_, fun e => ?_⟩
        · rw [fr8 a (.inl e)] at h; cases h
        · rw [fr8 a (.inr e)] at h; cases h
      have daO := out_ da _ hda7
      have dO : (d ≠ m ∧ d ∉ F.ls) ∧ (qq ≠ m ∧ qq ∉ F.ls) := by
        obtain ⟨_, _, _, _, _, hd, hq, _⟩ := A7
        exact ⟨out_ d _ hd, out_ qq _ hq⟩
      have plO := W8.out_of hpl
      have A8 := A7.keep fun a _ o h => le8 a o h
      have hda8 := le8 _ _ hda7
      have pl_da : pl ≠ da := ne_none hda8 hpl
      have pl_d : pl ≠ d ∧ pl ≠ qq := by
        obtain ⟨_, _, _, _, _, hd, hq, _⟩ := A8
        exact ⟨ne_none hd hpl, ne_none hq hpl⟩
      let env : DEnv := [some (.rol (cells.map D.int)), some (.ref d), some (imgD I), some (.ref da), some (.int (n : Nat)), some (.ref m), some (.ref pl), none, none]
      refine ⟨fun ρ w' => ∃ j ns, goM I dat n (startM I) = (atM I dat j, ns) ∧ ns.length = j ∧ ρ = env ∧ MW w' m F (atM I dat j) ∧ w' pl = some (.lst (ns.map D.int)) ∧ w' da = some (.lst (dat.map D.int)) ∧ DrawAt w' d qq, ?_, ?_⟩
      · refine ⟨fun mm ρ w' => ∃ j ns, Mid I dat mm j ns n ∧ ρ = env ∧ MW w' m F (atM I dat j) ∧ w' pl = some (.lst (ns.map D.int)) ∧ w' da = some (.lst (dat.map D.int)) ∧ DrawAt w' d qq, ⟨n, 0, [], mid_0, rfl, W8.mono (LE.new hpl), updW_same, LE.new hpl _ _ hda8, A8.keep fun a _ o h => LE.new hpl a o h⟩, ?_⟩
        rintro mm ρ w9 ⟨j, ns, hm, rfl, W9, hpl9, hda9, A9⟩
        obtain ⟨f, hf, f1, f2, f3, f4, f5, f6⟩ := W9.dict
        have hnl : (((ns.map D.int).length : Nat) : Int) = (j : Int) := by rw [List.length_map, hm.2.1]
        have fin : mm = 0 ∨ (atM I dat j).en.live = false → ∃ j ns, goM I dat n (startM I) = (atM I dat j, ns) ∧ ns.length = j ∧ env = env ∧ MW w9 m F (atM I dat j) ∧ w9 pl = some (.lst (ns.map D.int)) ∧ w9 da = some (.lst (dat.map D.int)) ∧ DrawAt w9 d qq := fun he => ⟨j, ns, mid_end hm he, hm.2.1, rfl, W9, hpl9, hda9, A9⟩
        refine ⟨_, hpl9, fun h => ⟨6, f, _, hf, f5, sz rfl, eq_en ⟨fun h2 => ?_, fun h2 => fin (.inr h2)⟩⟩, fun h => ⟨fun z => absurd (show false = true from z) (by decide), fun _ => fin (.inl ?_)⟩⟩
        · have h' : j < n := by
            have h3 := of_decide_eq_true h
            rw [hnl] at h3
            omega
          obtain ⟨m', rfl⟩ : ∃ m', mm = m' + 1 := ⟨mm - 1, by have := hm.1; omega⟩
          refine ⟨⟨_, _, rfl, hpl9⟩, 6, f, _, hf, f2, _, hpl9, ?_, ?_⟩
          · rw [List.length_map, hm.2.1]
            exact Nat.lt_of_lt_of_le (show j < 1000 by omega) (by decide)
          · have W10 := W9.keep (w' := updW w9 pl (.lst (ns.map D.int ++ [.int (atM I dat j).pc]))) fun a o ha h => by
              have : a ≠ pl := by
                rcases ha with rfl | ha
                · exact Ne.symm plO.1
                · exact fun e => plO.2 (by rw [← e]; exact ha)
              rw [updW_ne this]
              exact h
            have hda10 : updW w9 pl (.lst (ns.map D.int ++ [.int (atM I dat j).pc])) da = some (.lst (dat.map D.int)) := by rw [updW_ne (Ne.symm pl_da)]; exact hda9
            refine ⟨rfl, I, dat, m, F, atM I dat j, da, rfl, IO, MO j, hda10, daO.1, daO.2, Nat.le_trans (at_out j) (by omega), W10, fun w11 fr W11 => ⟨m', by omega, j + 1, ns ++ [(atM I dat j).pc], mid_step hm h2, rfl, W11, ?_, fr _ _ daO.1 daO.2 hda10, ?_⟩⟩
            · have z := fr pl _ plO.1 plO.2 updW_same
              rw [z, List.map_append]
              rfl
            · refine A9.keep fun a ha o h => ?_
              rcases ha with rfl | rfl
              · exact fr _ _ dO.1.1 dO.1.2 (by rw [updW_ne (Ne.symm pl_d.1)]; exact h)
              · exact fr _ _ dO.2.1 dO.2.2 (by rw [updW_ne (Ne.symm pl_d.2)]; exact h)
        · have h3 := of_decide_eq_false h
          rw [hnl] at h3
          have := hm.1
          omega
      · rintro ρ w9 ⟨j, ns, eg, hnl, rfl, W9, hpl9, hda9, A9⟩
        have RI : ∀ dd w', DataAt w' dd dat → RunIn I dat dd n [imgD I, dd, .int (n : Nat)] w' := fun dd w' h => ⟨rfl, IO, hb4, h, by omega⟩
        refine ⟨fun ρ w' => ∃ a, ρ = [some (.rol (cells.map D.int)), some (.ref d), some (imgD I), some (.ref da), some (.int (n : Nat)), some (.ref m), some (.ref pl), some (.tup [.ref a, enD (atM I dat j).en, .int (ns.length : Nat)]), none] ∧ w' a = some (.lst ((atM I dat j).out.map D.int)) ∧ MW w' m F (atM I dat j) ∧ w' pl = some (.lst (ns.map D.int)) ∧ w' da = some (.lst (dat.map D.int)), ?_, ?_⟩
        · refine ⟨rfl, d, qq, 2, rfl, by decide, by decide, A9, fun v w10 _ _ A10 df10 => ?_⟩
          have W10 := W9.keep (w' := w10) fun a o ha h => df10 a o (by
            rcases ha with rfl | ha
            · exact Ne.symm dO.1.1
            · exact fun e => dO.1.2 (by rw [← e]; exact ha)) h
          have hpl10 := df10 _ _ pl_d.1 hpl9
          have hda10 := df10 _ _ dad hda9
          refine ⟨fun _ => ⟨_, hda10, rfl, rfl, rfl, I, dat, _, n, RI _ _ (.inl rfl), fun a ha => ?_⟩, fun _ => ⟨_, hda10, fun e he => ⟨rfl, rfl, rfl, I, dat, _, n, RI _ _ (.inr ⟨e, rfl, updW_same⟩), fun a ha => ?_⟩⟩⟩
          · rw [eg] at *
            exact ⟨a, rfl, updW_same, W10.mono (LE.new ha), LE.new ha _ _ hpl10, LE.new ha _ _ hda10⟩
          · rw [eg] at *
            have le := (LE.new (o := .lst (dat.map D.int)) he).trans (LE.new (o := .lst ((atM I dat j).out.map D.int)) ha)
            exact ⟨a, rfl, updW_same, W10.mono le, le _ _ hpl10, le _ _ hda10⟩
        · rintro ρ w10 ⟨a, rfl, ha, W10, hpl10, hda10⟩
          obtain ⟨f, hf, f1, f2, f3, f4, f5, f6⟩ := W10.dict
          refine ⟨rfl, true, rfl, fun z => absurd (show false = true from z) (by decide), fun _ => ⟨6, f, _, hf, f4, 6, f, _, hf, f5, _, hpl10, sz rfl, ne_same (ans_dd ha) ?_ (ans_sh _ _ _) ⟨fun z => absurd (show false = true from z) (by decide), fun _ => ?_⟩⟩⟩
          · have z := ans_dd (e := (atM I dat j).en) (n := (ns.length : Nat)) W10.o
            have e : (((ns.map D.int).length : Nat) : Int) = ((ns.length : Nat) : Int) := by rw [List.length_map]
            rw [e]
            exact z
          · refine ⟨_, hda10, fun e he => ⟨rfl, rfl, rfl, I, dat, _, n, RI _ _ (.inr ⟨e, rfl, updW_same⟩), rfl, m, F, atM I dat j, rfl, ?_, W10.mono (LE.new he), ?_⟩⟩
            · rw [(MO j).ml]
              exact IO.ns
            · rw [eg]
              refine ne_same (ms_dd _) (ms_dd _) (ms_sh _) ⟨fun z => absurd (show false = true from z) (by decide), fun _ => ?_⟩
              have hda11 := LE.new (o := .lst (dat.map D.int)) he _ _ hda10
              refine ⟨_, hda11, fun e2 he2 => ⟨rfl, rfl, rfl, I, dat, _, n, RI _ _ (.inr ⟨e2, rfl, updW_same⟩), fun p hp => ?_⟩⟩
              rw [eg] at *
              have le := (LE.new (o := .lst (dat.map D.int)) he).trans ((LE.new (o := .lst (dat.map D.int)) he2).trans (LE.new (o := .lst (ns.map D.int)) hp))
              exact eq_same (.lst updW_same (Dds.ints ns)) (.lst (le _ _ hpl10) (Dds.ints ns)) (list_sh ns) (le_w (q _))
end
end Rs
set_option maxHeartbeats 0
/-! The head: the top's run, by one equation in the kernel. -/
namespace Rs
open PySem PySem.Spec PyProof.Rows L2
abbrev AlR : Type := He.AlD × Bool
def obsR (K : PySem.W.Frag) : AlR := (He.obsD fa fn K, tupsB K)
def obsRG (n : Nat) (g : Addr → Option Obj) : AlR := obsR (He.frG g (He.asD g n))
def hookR (n : Nat) : PySem.W.Hook where
  α := AlR
  obs := fun s => obsRG n s.heap.get?
  val := fun _ => (He.valD fn, true)
  says := fun _ h => ∃ K : PySem.W.Frag, K.In h ∧ SaysR K
  of := fun _ _ e => ⟨_, He.frG_in, congrArg (fun z : AlR => z.1) e, congrArg (fun z : AlR => z.2) e⟩
  keeps := fun _ _ _ ⟨K, hK, c⟩ k => ⟨K, PySem.W.Frag.In.keeps hK k, c⟩
theorem obsRG_eq {n : Nat} {g : Addr → Option Obj} {s : Shared} (h : ∀ a, g a = s.heap.get? a) : obsRG n g = (hookR n).obs s := by
  have e : g = s.heap.get? := funext h
  rw [e] <;> rfl
abbrev R : PySem.W.OpenRow := PySem.W.OpenLaw.row PySem.Challenge.rw_restitch_k97_whole_runs_of_the_machine
abbrev hk : PySem.W.Hook := hookR 4
def ob (s : PySem.W.SharedT) : AlR := obsRG 4 (HandSHeadRun.getT s)
theorem ob_eq (s : PySem.W.SharedT) : ob s = hk.obs s.abs := obsRG_eq (HandSHeadRun.getT_eq s)
def loose_0 : List PySem.Str := ["encode", "signed_field", "fields", "decode", "find_segment", "can_load", "can_store", "can_fetch", "load_word", "store_word", "first_memory", "word_at", "signed", "compute", "compute_rest", "holds", "start", "with_register", "size_of", "loaded"]
def loose_1 : List PySem.Str := ["access", "plain_step", "jump_step", "step", "last_state", "run", "trace", "_law_draw", "_law_take", "_law_ops", "_law_word", "_law_bytes", "_law_label", "_law_here", "_law_put_word", "_law_some", "_law_register", "_law_set", "_law_alu", "_law_memory"]
def loose_2 : List PySem.Str := ["_law_if", "_law_loop", "_law_call", "_law_switch", "_law_rows", "_law_odd", "_law_code_words", "_law_values", "_law_image", "_law_signed", "_law_result", "_law_holds", "_law_home", "_law_read", "_law_fetch", "_law_begin", "_law_give", "_law_touch", "_law_plain", "_law_step"]
def loose_3 : List PySem.Str := ["_law_state", "ALU", "IMMEDIATE", "LOADS", "STORES", "BRANCHES", "OPS", "WORD"]
def loose : List PySem.Str := loose_0 ++ (loose_1 ++ (loose_2 ++ (loose_3)))
theorem run (w : World) : HandSHeadRun.RunEq R (PySem.W.view R.prog [72]) hk ob 6000 loose w := by
  intro os
  kernel_rfl
end Rs
set_option maxHeartbeats 4000000
/-! All joined. -/
namespace Rs
open PySem PySem.Spec PyProof.Rows L2
theorem law_ok {P : Program} {w : World} {K : PySem.W.Frag} {mg : Str → Option Value} {base : Heap} {f : Addr} {fd : FuncData} (FD : FunD K "law" "law" (defArgs (top 72)) (defBody (top 72)) (defScope (top 72)) [] [] f fd) (T : Tx K mg) : FnOk P w K mg base CX0 12 f fd ["_law_script"] (spD K 1 fLaw) := by
  have k_signed_field := ok_signed_field (P := P) (w := w) (base := base) T
  have k_encode := ok_encode (P := P) (w := w) (base := base) T
  have k_fields := ok_fields (P := P) (w := w) (base := base) T k_signed_field
  have k_decode := ok_decode (P := P) (w := w) (base := base) T k_fields k_encode
  have k_find_segment := ok_find_segment (P := P) (w := w) (base := base) T
  have k_can_load := ok_can_load (P := P) (w := w) (base := base) T k_find_segment
  have k_can_store := ok_can_store (P := P) (w := w) (base := base) T k_find_segment
  have k_can_fetch := ok_can_fetch (P := P) (w := w) (base := base) T k_find_segment
  have k_load_word := ok_load_word (P := P) (w := w) (base := base) T k_find_segment
  have k_first_memory := ok_first_memory (P := P) (w := w) (base := base) T
  have k_word_at := ok_word_at (P := P) (w := w) (base := base) T k_load_word k_first_memory
  have k_store_word := ok_store_word (P := P) (w := w) (base := base) T k_find_segment
  have k_signed := ok_signed (P := P) (w := w) (base := base) T
  have k_compute_rest := ok_compute_rest (P := P) (w := w) (base := base) T k_signed
  have k_compute := ok_compute (P := P) (w := w) (base := base) T k_compute_rest
  have k_holds := ok_holds (P := P) (w := w) (base := base) T k_signed
  have k_start := ok_start (P := P) (w := w) (base := base) T k_first_memory
  have k_with_register := ok_with_register (P := P) (w := w) (base := base) T
  have k_size_of := ok_size_of (P := P) (w := w) (base := base) T
  have k_loaded := ok_loaded (P := P) (w := w) (base := base) T k_load_word k_size_of
  have k_access := ok_access (P := P) (w := w) (base := base) T k_size_of k_can_load k_can_store k_loaded k_with_register k_store_word
  have k_plain_step := ok_plain_step (P := P) (w := w) (base := base) T k_access k_with_register k_compute
  have k_jump_step := ok_jump_step (P := P) (w := w) (base := base) T k_holds k_with_register
  have k_step := ok_step (P := P) (w := w) (base := base) T k_can_fetch k_word_at k_decode k_jump_step k_plain_step
  have k_last_state := ok_last_state (P := P) (w := w) (base := base) T k_start k_step
  have k_run := ok_run (P := P) (w := w) (base := base) T k_start k_step
  have k_trace := ok_trace (P := P) (w := w) (base := base) T k_start k_step
  have k__law_ops := ok__law_ops (P := P) (w := w) (base := base) T
  have k__law_word := ok__law_word (P := P) (w := w) (base := base) T k__law_ops
  have k__law_signed := ok__law_signed (P := P) (w := w) (base := base) T
  have k__law_result := ok__law_result (P := P) (w := w) (base := base) T k__law_signed
  have k__law_holds := ok__law_holds (P := P) (w := w) (base := base) T k__law_signed
  have k__law_home := ok__law_home (P := P) (w := w) (base := base) T
  have k__law_read := ok__law_read (P := P) (w := w) (base := base) T k__law_ops k__law_word
  have k__law_fetch := ok__law_fetch (P := P) (w := w) (base := base) T k__law_home
  have k__law_give := ok__law_give (P := P) (w := w) (base := base) T
  have k__law_begin := ok__law_begin (P := P) (w := w) (base := base) T
  have k__law_touch := ok__law_touch (P := P) (w := w) (base := base) T k__law_home k__law_give
  have k__law_plain := ok__law_plain (P := P) (w := w) (base := base) T k__law_touch k__law_give k__law_ops k__law_result
  have k__law_step := ok__law_step (P := P) (w := w) (base := base) T k__law_fetch k__law_read k__law_give k__law_holds k__law_plain
  have k__law_state := ok__law_state (P := P) (w := w) (base := base) T
  have k__law_take := ok__law_take (P := P) (w := w) (base := base) T
  have k__law_draw := ok__law_draw (P := P) (w := w) (base := base) T
  have k__law_label := ok__law_label (P := P) (w := w) (base := base) T
  have k__law_here := ok__law_here (P := P) (w := w) (base := base) T
  have k__law_put_word := ok__law_put_word (P := P) (w := w) (base := base) T
  have k__law_some := ok__law_some (P := P) (w := w) (base := base) T k__law_take
  have k__law_register := ok__law_register (P := P) (w := w) (base := base) T k__law_some
  have k__law_set := ok__law_set (P := P) (w := w) (base := base) T k__law_put_word
  have k__law_odd := ok__law_odd (P := P) (w := w) (base := base) T k__law_some k__law_put_word k__law_register
  have k__law_alu := ok__law_alu (P := P) (w := w) (base := base) T k__law_some k__law_put_word k__law_register k__law_ops
  have k__law_memory := ok__law_memory (P := P) (w := w) (base := base) T k__law_some k__law_put_word k__law_register
  have k__law_call := ok__law_call (P := P) (w := w) (base := base) T k__law_alu k__law_some k__law_put_word
  have r0 := ok__law_rows (P := P) (w := w) (base := base) (lv := 5) (dd := 0) (by decide) T k__law_some k__law_put_word k__law_register k__law_alu k__law_memory k__law_odd k__law_call ((no__law_if T).mono (by decide)) ((no__law_loop T).mono (by decide)) ((no__law_switch T).mono (by decide))
  have i1 := ok__law_if (P := P) (w := w) (base := base) (lv := 6) (dd := 1) (by decide) T k__law_some k__law_put_word k__law_register k__law_label k__law_here r0
  have l1 := ok__law_loop (P := P) (w := w) (base := base) (lv := 6) (dd := 1) (by decide) T k__law_some k__law_put_word k__law_label k__law_here r0
  have s1 := ok__law_switch (P := P) (w := w) (base := base) (lv := 6) (dd := 1) (by decide) T k__law_put_word k__law_register k__law_label k__law_here r0
  have r1 := ok__law_rows (P := P) (w := w) (base := base) (lv := 7) (dd := 1) (by decide) T k__law_some k__law_put_word k__law_register k__law_alu k__law_memory k__law_odd k__law_call i1 l1 s1
  have i2 := ok__law_if (P := P) (w := w) (base := base) (lv := 8) (dd := 2) (by decide) T k__law_some k__law_put_word k__law_register k__law_label k__law_here r1
  have l2 := ok__law_loop (P := P) (w := w) (base := base) (lv := 8) (dd := 2) (by decide) T k__law_some k__law_put_word k__law_label k__law_here r1
  have s2 := ok__law_switch (P := P) (w := w) (base := base) (lv := 8) (dd := 2) (by decide) T k__law_put_word k__law_register k__law_label k__law_here r1
  have r2 := ok__law_rows (P := P) (w := w) (base := base) (lv := 9) (dd := 2) (by decide) T k__law_some k__law_put_word k__law_register k__law_alu k__law_memory k__law_odd k__law_call i2 l2 s2
  have k__law_bytes := ok__law_bytes (P := P) (w := w) (base := base) T 
  have k__law_values := ok__law_values (P := P) (w := w) (base := base) T k__law_bytes
  have k__law_code_words := ok__law_code_words (P := P) (w := w) (base := base) T k__law_word
  have lx := okX__law_label (P := P) (w := w) (base := base) T
  have k__law_image := ok__law_image (P := P) (w := w) (base := base) T k__law_take k__law_set lx r2 k__law_put_word k__law_here k__law_code_words k__law_values
  exact ok_law FD T k__law_draw k__law_image k__law_take k__law_begin k__law_step k_run k_last_state k__law_state k_trace
theorem script_ok {K : PySem.W.Frag} {H : Hp} {a : Addr} {ns : List Int} (hl : ns.length ≤ 63) (hO : Only H) (hS : SqL K H a (ns.map V.int)) {E : XK} : spD K 1 fLaw [.ref a] H (fun v _ => v = .bl true) E := by
  have hR : RoL K H a (ns.map V.int) := by
    rcases hS with h | h
    · rcases hO a with e | ⟨o, xs, e⟩
      · rcases h with h | ⟨o2, h⟩
        · rw [e] at h; cases h
        · rw [e] at h; cases h
      · rcases h with h | ⟨o2, h⟩
        · rw [e] at h; cases h
        · exact .inl ⟨o2, h⟩
    · exact .inr h
  refine ⟨[.rol (ns.map D.int)], fun _ => none, fun d _ => d = .bl true, .cons (.rol hR (Dts.ints ns)) .nil, (by intro _ _ h; cases h), rfl, ⟨ns, rfl, by omega, fun _ => rfl⟩, fun v H' d w' _ r _ e => ?_⟩
  subst e
  cases r
  rfl
theorem facts {P : Program} {w : World} {K : PySem.W.Frag} {h : Heap} {mg : Str → Option Value} {f : Addr} (X : K.In h) (G : h.Ns mainGlobals mg) (hfa : mg ("law" : Str) = some (.ref f)) (c : SaysR K) :
    ∃ fd : FuncData, (∀ (s : Shared) (v : Value), BindsTo s fd ⟨[v], []⟩ [("_law_script", v)]) ∧ ∀ base : Heap, K.In base → base.Ns mainGlobals mg → FnOk P w K mg base CX0 12 f fd ["_law_script"] (spD K 1 fLaw) := by
  have T := tx_of X G c
  obtain ⟨f', fd, hm, FD⟩ := T.has 61 (i := 72) (x := "law") rfl
  have e := hfa.symm.trans hm
  cases e
  have b := FunD.bindsA (ps := ["_law_script"]) FD fun _ _ _ _ _ _ us hl => match us, hl with | [_], _ => rfl
  exact ⟨fd, fun s v => b s [v] rfl, fun base _ _ => law_ok FD T⟩
end Rs
open PySem PySem.W PySem.Calls PyProof.Rows
theorem PySem.Challenge.cw_restitch_k97_whole_runs_of_the_machine_holds : PySem.Challenge.rw_restitch_k97_whole_runs_of_the_machine.Holds := by
  w_on; o_law
  refine HandSHeadRun.head_any (r := OpenLaw.row PySem.Challenge.rw_restitch_k97_whole_runs_of_the_machine) (q := view (OpenLaw.row PySem.Challenge.rw_restitch_k97_whole_runs_of_the_machine).prog [72]) (H := Rs.hk) (ob := Rs.ob) (M := 6000) (loose := Rs.loose) (d := HandSHeadRun.topDef (OpenLaw.row PySem.Challenge.rw_restitch_k97_whole_runs_of_the_machine).prog 72) (kwd := []) Rs.ob_eq
    (by kernel_rfl) (fun s => by kernel_rfl) Rs.run (by kernel_rfl) (by kernel_rfl) (by kernel_rfl) (by rfl) (by first | assumption | decide +kernel) (by decide +kernel) ⟨rfl, rfl, rfl, rfl, rfl, by decide +kernel⟩ ?hw ?hc
  case hw => w_witness2
  case hc =>
    refine L2.walk_ofE (l := PySem.Challenge.rw_restitch_k97_whole_runs_of_the_machine) (n := 63) (k := 12) (x := "_law_script") (CX := L2.CX0) rfl (by decide) (by kernel_rfl) ⟨rfl, by decide, by decide⟩ ?F (fun _ _ _ _ z => z)
    intro w mg fa h Y G hmg0
    obtain ⟨K, KX, c⟩ := Y
    have hmg : mg ("law" : PySem.Str) = some (.ref fa) := by
      have e : (HandSHeadRun.topDef (OpenLaw.row PySem.Challenge.rw_restitch_k97_whole_runs_of_the_machine).prog 72).name = ("law" : PySem.Str) := by kernel_rfl
      rw [← e]
      exact hmg0
    obtain ⟨fd, hb, hF⟩ := Rs.facts (P := (PySem.Challenge.rw_restitch_k97_whole_runs_of_the_machine).prog) (w := w) KX G hmg c
    exact ⟨K, fd, _, KX, hb, fun H a ns hl hO hS => Rs.script_ok hl hO hS, hF⟩
