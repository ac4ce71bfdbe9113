import PyProof.Rows.All
import Wide.All
import OpenK.AllK
import Wide.FinOn
import HandS.ForMost
import HandS.DictComp
import HandS.Star
import HandS.SortInts
import HandS.Codes
import HandS.WordsDict
import HandS.SetFor
import KE.KSortedM
import HandS.Style
import HandS.IsInst
import PySem.Challenge.RW_clockshifts_k97_whole_fair_turns_and_dea
import HandS.DictTup
import HandS.Conv
import HandS.Zip
set_option Elab.async false
set_option linter.all false
set_option maxRecDepth 100000
set_option maxHeartbeats 4000000
-- part DLa
/-! DL: a data layer of my own over HandS. WE, WT, WA, WS: what must hold so that .. ends as wanted, in direct style.
Sta F cs H: the heap H holds the frozen part F and the cells cs. GE: an expression that gives a datum and changes nothing but by adding to F. -/
namespace DL
open PySem PySem.Spec PyProof.Rows L2
abbrev Sl := L2.St

section wp
variable {X : Cx}
def WE (X : Cx) (e : Expr) (σ : Sl) (H : Hp) (Q : VK) : Prop :=
  ∀ (pins : List (Addr × Obj)) (s : Shared), Inv X pins σ H s → wpAny (model X.prog X.w) X.A (eval e X.env) (EP X pins σ Q) X.xe s
def WT (X : Cx) (e : Expr) (σ : Sl) (H : Hp) (Q : Bool → Hp → Prop) : Prop :=
  ∀ (pins : List (Addr × Obj)) (s : Shared), Inv X pins σ H s → wpAny (model X.prog X.w) X.A (isTrue e X.env (eval e X.env)) (TP X pins σ Q) X.xe s
def WW (X : Cx) (e : Expr) (σ : Sl) (H : Hp) (Q : Bool → Hp → Prop) : Prop :=
  ∀ (whole : Sem Value) (pins : List (Addr × Obj)) (s : Shared), Inv X pins σ H s → wpAny (model X.prog X.w) X.A (isTrue e X.env whole) (TP X pins σ Q) X.xe s
def WA (X : Cx) (es : List Expr) (σ : Sl) (H : Hp) (Q : List V → Hp → Prop) : Prop :=
  ∀ (pos : Pos) (pins : List (Addr × Obj)) (s : Shared), Inv X pins σ H s → wpAny (model X.prog X.w) X.A (spliced (backTo pos (starEach es X.env))) (AP X pins σ Q) X.xe s
def WS (X : Cx) (st : Stmt) (D : Ends) (σ : Sl) (H : Hp) : Prop :=
  ∀ (pins : List (Addr × Obj)) (s : Shared), Inv X pins σ H s → wpAny (model X.prog X.w) X.A (exec st X.env) (SP X pins D) X.xe s
def WSs (X : Cx) (st : List Stmt) (D : Ends) (σ : Sl) (H : Hp) : Prop :=
  ∀ (pins : List (Addr × Obj)) (s : Shared), Inv X pins σ H s → wpAny (model X.prog X.w) X.A (execs st X.env) (SP X pins D) X.xe s
def WG (X : Cx) (tg : Expr) (v : V) (σ : Sl) (H : Hp) (Q : Sl → Hp → Prop) : Prop :=
  ∀ (pins : List (Addr × Obj)) (s : Shared) (u : Value), Inv X pins σ H s → RelV v u → wpAny (model X.prog X.w) X.A (assign tg X.env u) (fun _ s' => ∃ σ' H', Inv X pins σ' H' s' ∧ Q σ' H') X.xe s
def WI (X : Cx) (tg iter : Expr) (σ : Sl) (H : Hp) (R : It → Hp → Prop) : Prop :=
  ∀ (pins : List (Addr × Obj)) (s : Shared), Inv X pins σ H s → wpAny (model X.prog X.w) X.A (eval iter X.env) (fun v s1 => wpAny (model X.prog X.w) X.A (pyIter v) (PIE X pins σ tg R) X.xe s1) X.xe s
theorem peW {e : Expr} : PE X e (WE X e) := ⟨fun pins s _ _ _ I h => h pins s I⟩
theorem ptW {e : Expr} : PT X e (WT X e) := ⟨fun pins s _ _ _ I h => h pins s I⟩
theorem pwW {e : Expr} : PW X e (WW X e) := ⟨fun w pins s _ _ _ I h => h w pins s I⟩
theorem paW {e : List Expr} : PA X e (WA X e) := ⟨fun pos pins s _ _ _ I h => h pos pins s I⟩
theorem psW {e : Stmt} : PS X e (WS X e) := ⟨fun pins s _ _ _ I h => h pins s I⟩
theorem pssW {e : List Stmt} : PSs X e (WSs X e) := ⟨fun pins s _ _ _ I h => h pins s I⟩
theorem pgW {e : Expr} : PG X e (WG X e) := ⟨fun pins s _ _ _ u _ I r h => h pins s u I r⟩
theorem piW {tg e : Expr} : PI X tg e (WI X tg e) := ⟨fun pins s _ _ _ I h => h pins s I⟩
variable {e : Expr} {σ : Sl} {H : Hp}
theorem weB {t : TE} (h : PE X e t) {Q : VK} (q : t σ H Q) : WE X e σ H Q := fun pins s I => h.run pins s σ H Q I q
theorem wtB {t : TT} (h : PT X e t) {Q : Bool → Hp → Prop} (q : t σ H Q) : WT X e σ H Q := fun pins s I => h.run pins s σ H Q I q
theorem wwB {t : TT} (h : PW X e t) {Q : Bool → Hp → Prop} (q : t σ H Q) : WW X e σ H Q := fun wh pins s I => h.run wh pins s σ H Q I q
theorem waB {es : List Expr} {t : TA} (h : PA X es t) {Q : List V → Hp → Prop} (q : t σ H Q) : WA X es σ H Q := fun pos pins s I => h.run pos pins s σ H Q I q
theorem wsB {st : Stmt} {t : TS} (h : PS X st t) {D : Ends} (q : t D σ H) : WS X st D σ H := fun pins s I => h.run pins s σ H D I q
theorem wssB {st : List Stmt} {t : TS} (h : PSs X st t) {D : Ends} (q : t D σ H) : WSs X st D σ H := fun pins s I => h.run pins s σ H D I q
theorem wgB {t : TG} (h : PG X e t) {v : V} {Q : Sl → Hp → Prop} (q : t v σ H Q) : WG X e v σ H Q := fun pins s u I r => h.run pins s σ H v u Q I r q
theorem wiB {tg : Expr} {t : TI} (h : PI X tg e t) {R : It → Hp → Prop} (q : t σ H R) : WI X tg e σ H R := fun pins s I => h.run pins s σ H R I q
theorem WE.mono {Q Q' : VK} (h : WE X e σ H Q) (f : ∀ v H', Q v H' → Q' v H') : WE X e σ H Q' := fun pins s I => thn (h pins s I) fun _ _ ⟨v, H', I', r, q⟩ => ⟨v, H', I', r, f _ _ q⟩
theorem WT.mono {Q Q' : Bool → Hp → Prop} (h : WT X e σ H Q) (f : ∀ v H', Q v H' → Q' v H') : WT X e σ H Q' := fun pins s I => thn (h pins s I) fun _ _ ⟨H', I', q⟩ => ⟨H', I', f _ _ q⟩
theorem WW.mono {Q Q' : Bool → Hp → Prop} (h : WW X e σ H Q) (f : ∀ v H', Q v H' → Q' v H') : WW X e σ H Q' := fun w pins s I => thn (h w pins s I) fun _ _ ⟨H', I', q⟩ => ⟨H', I', f _ _ q⟩
theorem WA.mono {es : List Expr} {Q Q' : List V → Hp → Prop} (h : WA X es σ H Q) (f : ∀ v H', Q v H' → Q' v H') : WA X es σ H Q' := fun pos pins s I => thn (h pos pins s I) fun _ _ ⟨v, H', I', r, q⟩ => ⟨v, H', I', r, f _ _ q⟩
theorem WI.mono {tg : Expr} {R R' : It → Hp → Prop} (h : WI X tg e σ H R) (f : ∀ v H', R v H' → R' v H') : WI X tg e σ H R' := fun pins s I =>
  thn (h pins s I) fun _ _ q => thn q fun _ _ ⟨a, b, c, d, H', e1, I', t, u, w, q⟩ => ⟨a, b, c, d, H', e1, I', t, u, w, f _ _ q⟩
theorem wss_cons {st : Stmt} {rest : List Stmt} {D : Ends} (h : WS X st { D with nx := WSs X rest D } σ H) : WSs X (st :: rest) D σ H :=
  wssB (pss_cons psW pssW) h
theorem wss_nil {D : Ends} (h : D.nx σ H) : WSs X [] D σ H := wssB pss_nil h
theorem wss_one {st : Stmt} {D : Ends} (h : WS X st D σ H) : WSs X [st] D σ H := wssB (pss_one psW) h
end wp

/-! ### the state -/
abbrev Cs := List (Addr × HO)
def isDct : HO → Prop
  | .dK _ => True
  | .dT _ => True
  | _ => False
structure Sta (F : Hp) (cs : Cs) (H : Hp) : Prop where
  le : ∀ a o, F a = some o → H a = some o ∨ (isDct o ∧ ∃ ob, H a = some (.frz ob o))
  has : ∀ p ∈ cs, H p.1 = some p.2
  off : ∀ p ∈ cs, F p.1 = none ∨ ∃ ob u, p.2 = .frz ob u ∧ isDct u
  nd : (cs.map (·.1)).Nodup
class Le (F F' : Hp) : Prop where
  h : ∀ a o, F a = some o → F' a = some o
class Le1 (F : Hp) (F' : outParam Hp) : Prop where
  h : ∀ a o, F a = some o → F' a = some o
instance Le.refl (F : Hp) : Le F F := ⟨fun _ _ h => h⟩
instance Le.step (F F1 F2 : Hp) [a : Le1 F F1] [b : Le F1 F2] : Le F F2 := ⟨fun x o h => b.h x o (a.h x o h)⟩
theorem Le.trans {F F1 F2 : Hp} (a : Le F F1) (b : Le F1 F2) : Le F F2 := ⟨fun x o h => b.h x o (a.h x o h)⟩
theorem Le.one {F F1 : Hp} (a : Le F F1) : Le1 F F1 := ⟨a.h⟩
theorem Le1.le {F F1 : Hp} (a : Le1 F F1) : Le F F1 := ⟨a.h⟩
class Sub (cs cs' : Cs) : Prop where
  h : ∀ p ∈ cs, p ∈ cs'
instance Sub.nil (cs : Cs) : Sub [] cs := ⟨fun _ h => nomatch h⟩
instance Sub.refl (cs : Cs) : Sub cs cs := ⟨fun _ h => h⟩
instance (priority := low) Sub.tail (p : Addr × HO) (cs cs' : Cs) [a : Sub cs cs'] : Sub cs (p :: cs') := ⟨fun q h => List.mem_cons_of_mem _ (a.h q h)⟩
instance Sub.both (p : Addr × HO) (cs cs' : Cs) [a : Sub cs cs'] : Sub (p :: cs) (p :: cs') := ⟨fun q h => by
  rcases List.mem_cons.mp h with e | h
  · rw [e]; exact List.mem_cons_self
  · exact List.mem_cons_of_mem _ (a.h q h)⟩
theorem Sub.trans {a b c : Cs} (x : Sub a b) (y : Sub b c) : Sub a c := ⟨fun p h => y.h p (x.h p h)⟩

section sta
variable {F F' H H' : Hp} {cs cs' : Cs} {a p : Addr} {o : HO}
/-- what is said of a frozen list, tuple, instance stands -/
theorem Sta.at' (S : Sta F cs H) (e : F a = some o) (n : ¬ isDct o) : H a = some o := by
  rcases S.le a o e with h | ⟨h, _⟩
  · exact h
  · exact absurd h n
theorem Sta.lst {xs : List V} (S : Sta F cs H) (e : F a = some (.lst xs)) : H a = some (.lst xs) := S.at' e (fun h => h)
theorem Sta.tup {xs : List V} (S : Sta F cs H) (e : F a = some (.tup xs)) : H a = some (.tup xs) := S.at' e (fun h => h)
theorem Sta.free (S : Sta F cs H) (e : H p = none) : F p = none := by
  cases q : F p with
  | none => rfl
  | some o =>
    rcases S.le p o q with h | ⟨_, _, h⟩ <;> rw [e] at h <;> cases h
theorem Sta.ncs (S : Sta F cs H) (e : H p = none) : ∀ q ∈ cs, q.1 ≠ p := fun q hq z => by
  have := S.has q hq
  rw [z, e] at this; cases this
/-- a new object, frozen -/
theorem Sta.new (S : Sta F cs H) (e : H p = none) (o : HO) : Le1 F (upd F p o) ∧ Sta (upd F p o) cs (upd H p o) := by
  have hF := S.free e
  refine ⟨⟨fun b u h => by rw [upd_ne (ne_of_none h hF)]; exact h⟩, ⟨fun b u h => ?_, fun q hq => ?_, fun q hq => ?_, S.nd⟩⟩
  · by_cases hb : b = p
    · subst hb; rw [upd_same] at h; cases h; exact .inl upd_same
    · rw [upd_ne hb] at h ⊢; exact S.le b u h
  · rw [upd_ne (S.ncs e q hq)]; exact S.has q hq
  · rw [upd_ne (S.ncs e q hq)]; exact S.off q hq
/-- a new object, a cell -/
theorem Sta.cell (S : Sta F cs H) (e : H p = none) (o : HO) : Sta F ((p, o) :: cs) (upd H p o) := by
  have hF := S.free e
  refine ⟨fun b u h => ?_, fun q hq => ?_, fun q hq => ?_, ?_⟩
  · have hb : b ≠ p := ne_of_none h hF
    rw [upd_ne hb]; exact S.le b u h
  · rcases List.mem_cons.mp hq with z | hq
    · rw [z]; exact upd_same
    · rw [upd_ne (S.ncs e q hq)]; exact S.has q hq
  · rcases List.mem_cons.mp hq with z | hq
    · rw [z]; exact .inl hF
    · exact S.off q hq
  · rw [List.map_cons, List.nodup_cons]
    refine ⟨fun hm => ?_, S.nd⟩
    obtain ⟨q, hq, z⟩ := List.mem_map.mp hm
    exact S.ncs e q hq z
/-- garbage -/
theorem Sta.junk (S : Sta F cs H) (e : H p = none) (o : HO) : Sta F cs (upd H p o) := by
  have S' := S.cell e o
  exact ⟨S'.le, fun q hq => S'.has q (List.mem_cons_of_mem _ hq), fun q hq => S'.off q (List.mem_cons_of_mem _ hq), S.nd⟩
/-- fewer frozen things are known -/
theorem Sta.weak (S : Sta F' cs H) (l : Le F F') : Sta F cs H := by
  refine ⟨fun b u h => S.le b u (l.h b u h), S.has, fun q hq => ?_, S.nd⟩
  rcases S.off q hq with h | h
  · refine .inl ?_
    cases z : F q.1 with
    | none => rfl
    | some u => rw [l.h _ _ z] at h; cases h
  · exact .inr h
/-- fewer cells -/
theorem Sta.sub (S : Sta F cs H) (h : List.Sublist cs' cs) : Sta F cs' H :=
  ⟨S.le, fun q hq => S.has q (h.subset hq), fun q hq => S.off q (h.subset hq), S.nd.sublist (h.map _)⟩
theorem Sta.drop {q : Addr × HO} (S : Sta F (q :: cs) H) : Sta F cs H := S.sub (List.sublist_cons_self q cs)
/-- a cell is written -/
theorem Sta.set {i : Nat} {o' : HO} (S : Sta F cs H) (h : cs[i]? = some (a, o)) (hn : ∀ ob u, o = .frz ob u → ¬ isDct u) : Sta F (cs.set i (a, o')) (upd H a o') := by
  have hi : i < cs.length := (List.getElem?_eq_some_iff.mp h).1
  have hm : (a, o) ∈ cs := List.mem_of_getElem? h
  have hF : F a = none := by
    rcases S.off _ hm with h | ⟨ob, u, z, d⟩
    · exact h
    · exact absurd d (hn ob u z)
  have mp : (cs.set i (a, o')).map (·.1) = cs.map (·.1) := by
    rw [List.map_set]
    apply List.ext_getElem?
    intro j
    by_cases hj : i = j
    · subst hj
      rw [List.getElem?_set_self (by simpa using hi), List.getElem?_map, h]; rfl
    · rw [List.getElem?_set_ne hj]
  have other : ∀ q ∈ cs.set i (a, o'), q = (a, o') ∨ (q ∈ cs ∧ q.1 ≠ a) := fun q hq => by
    obtain ⟨j, hj⟩ := List.getElem?_of_mem hq
    by_cases hij : i = j
    · subst hij
      rw [List.getElem?_set_self hi] at hj
      exact .inl (Option.some.inj hj).symm
    · rw [List.getElem?_set_ne hij] at hj
      refine .inr ⟨List.mem_of_getElem? hj, fun z => hij ?_⟩
      have n := S.nd
      have e1 : (cs.map (·.1))[i]? = some a := by rw [List.getElem?_map, h]; rfl
      have e2 : (cs.map (·.1))[j]? = some a := by rw [List.getElem?_map, hj, ← z]; rfl
      obtain ⟨h1, e1⟩ := List.getElem?_eq_some_iff.mp e1
      obtain ⟨h2, e2⟩ := List.getElem?_eq_some_iff.mp e2
      exact (List.getElem_inj n).mp (e1.trans e2.symm)
  refine ⟨fun b u e => ?_, fun q hq => ?_, fun q hq => ?_, by rw [mp]; exact S.nd⟩
  · rw [upd_ne (ne_of_none e hF)]; exact S.le b u e
  · rcases other q hq with z | ⟨hq, z⟩
    · rw [z]; exact upd_same
    · rw [upd_ne z]; exact S.has q hq
  · rcases other q hq with z | ⟨hq, z⟩
    · rw [z]; exact .inl hF
    · exact S.off q hq
/-- the first cell is frozen -/
theorem Sta.freeze (S : Sta F ((a, o) :: cs) H) (hn : ∀ ob u, o = .frz ob u → ¬ isDct u) : Le1 F (upd F a o) ∧ Sta (upd F a o) cs H := by
  have hF : F a = none := by
    rcases S.off _ List.mem_cons_self with h | ⟨ob, u, z, d⟩
    · exact h
    · exact absurd d (hn ob u z)
  have nd := S.nd
  rw [List.map_cons, List.nodup_cons] at nd
  refine ⟨⟨fun b u h => by rw [upd_ne (ne_of_none h hF)]; exact h⟩, ⟨fun b u h => ?_, fun q hq => S.has q (List.mem_cons_of_mem _ hq), fun q hq => ?_, nd.2⟩⟩
  · by_cases hb : b = a
    · subst hb; rw [upd_same] at h; cases h; exact .inl (S.has _ List.mem_cons_self)
    · rw [upd_ne hb] at h; exact S.le b u h
  · have : q.1 ≠ a := fun z => nd.1 (List.mem_map.mpr ⟨q, hq, z⟩)
    rw [upd_ne this]
    exact S.off q (List.mem_cons_of_mem _ hq)
end sta

/-! ### how data lie: F the frozen part, cs the cells that are read -/
abbrev Rep (α : Type) := Hp → Cs → V → α → Prop
class Stable {α : Type} (r : Rep α) : Prop where
  up : ∀ {F F' : Hp} {cs cs' : Cs} {v : V} {x : α}, Le F F' → Sub cs cs' → r F cs v x → r F' cs' v x
structure Is {α : Type} (r : Rep α) (F : Hp) (cs : Cs) (v : V) (x : α) : Prop where
  h : r F cs v x
theorem Is.up {α : Type} {r : Rep α} [s : Stable r] {F F' : Hp} {cs cs' : Cs} {v : V} {x : α} (i : Is r F cs v x) [l : Le F F'] [u : Sub cs cs'] : Is r F' cs' v x := ⟨s.up l u i.h⟩
def fz {α : Type} (r : Rep α) : Rep α := fun F _ v x => r F [] v x
instance {α : Type} (r : Rep α) [s : Stable r] : Stable (fz r) := ⟨fun l _ h => s.up l (Sub.refl []) h⟩
theorem Is.un {α : Type} {r : Rep α} [s : Stable r] {F : Hp} {cs : Cs} {v : V} {x : α} (i : Is (fz r) F cs v x) : Is r F cs v x := ⟨s.up (Le.refl F) (Sub.nil cs) i.h⟩
def rI : Rep Int := fun _ _ v i => v = .int i
def rB : Rep Bool := fun _ _ v b => v = .bl b
def rN : Rep Unit := fun _ _ v _ => v = .non
def rS : Rep Str := fun _ _ v x => v = .str x
instance : Stable rI := ⟨fun _ _ h => h⟩
instance : Stable rB := ⟨fun _ _ h => h⟩
instance : Stable rN := ⟨fun _ _ h => h⟩
instance : Stable rS := ⟨fun _ _ h => h⟩
def rO {α : Type} (r : Rep α) : Rep (Option α) := fun F cs v x => match x with
  | none => v = .non
  | some y => v ≠ .non ∧ r F cs v y
instance {α : Type} (r : Rep α) [s : Stable r] : Stable (rO r) := ⟨fun {F F' cs cs' v x} l u h => by
  cases x with
  | none => exact h
  | some y => exact ⟨h.1, s.up l u h.2⟩⟩
/-- frozen elements -/
abbrev Els {α : Type} (r : Rep α) (F : Hp) (vs : List V) (xs : List α) : Prop := Paired (fun v x => r F [] v x) vs xs
theorem Els.up {α : Type} {r : Rep α} [s : Stable r] {F F' : Hp} (l : Le F F') {vs : List V} {xs : List α} (h : Els r F vs xs) : Els r F' vs xs := Paired.mapP h fun _ _ q => s.up l (Sub.refl []) q
def rL {α : Type} (r : Rep α) : Rep (List α) := fun F cs v xs => ∃ a vs, v = .ref a ∧ (F a = some (.lst vs) ∨ (a, .lst vs) ∈ cs) ∧ Els r F vs xs
theorem rd_up {F F' : Hp} (l : Le F F') {a : Addr} {u : HO} (h : Rd F a u) : Rd F' a u := by
  rcases h with h | ⟨o, h⟩
  · exact .inl (l.h _ _ h)
  · exact .inr ⟨o, l.h _ _ h⟩
instance {α : Type} (r : Rep α) [s : Stable r] : Stable (rL r) := ⟨fun {F F' cs cs' v x} l u ⟨a, vs, e, h, q⟩ => ⟨a, vs, e, h.imp (l.h _ _) (u.h _), Els.up l q⟩⟩
/-- a known list (the script) -/
def rK {α : Type} (r : Rep α) : Rep (List α) := fun F cs v xs => ∃ a vs o, v = .ref a ∧ F a = some (.frz o (.lst vs)) ∧ Els r F vs xs
instance {α : Type} (r : Rep α) [s : Stable r] : Stable (rK r) := ⟨fun {F F' cs cs' v x} l u ⟨a, vs, o, e, h, q⟩ => ⟨a, vs, o, e, l.h _ _ h, Els.up l q⟩⟩
/-- a tuple of like things -/
def rTs {α : Type} (r : Rep α) : Rep (List α) := fun F _ v xs => ∃ a vs, v = .ref a ∧ F a = some (.tup vs) ∧ Els r F vs xs
instance {α : Type} (r : Rep α) [s : Stable r] : Stable (rTs r) := ⟨fun {F F' cs cs' v x} l u ⟨a, vs, e, h, q⟩ => ⟨a, vs, e, l.h _ _ h, Els.up l q⟩⟩
/-- a list or a tuple -/
def rQ {α : Type} (r : Rep α) : Rep (List α) := fun F cs v xs => rL r F cs v xs ∨ rTs r F cs v xs
instance {α : Type} (r : Rep α) [s : Stable r] : Stable (rQ r) := ⟨fun {F F' cs cs' v x} l u h => h.imp (Stable.up (r := rL r) l u) (Stable.up (r := rTs r) l u)⟩
def rT2 {α β : Type} (r : Rep α) (t : Rep β) : Rep (α × β) := fun F _ v x => ∃ a u w, v = .ref a ∧ F a = some (.tup [u, w]) ∧ r F [] u x.1 ∧ t F [] w x.2
instance {α β : Type} (r : Rep α) (t : Rep β) [s : Stable r] [z : Stable t] : Stable (rT2 r t) := ⟨fun {F F' cs cs' v x} l u ⟨a, p, q, e, h, h1, h2⟩ => ⟨a, p, q, e, l.h _ _ h, s.up l (Sub.refl []) h1, z.up l (Sub.refl []) h2⟩⟩
def rT3 {α β γ : Type} (r : Rep α) (t : Rep β) (y : Rep γ) : Rep (α × β × γ) := fun F _ v x => ∃ a p q w, v = .ref a ∧ F a = some (.tup [p, q, w]) ∧ r F [] p x.1 ∧ t F [] q x.2.1 ∧ y F [] w x.2.2
instance {α β γ : Type} (r : Rep α) (t : Rep β) (y : Rep γ) [s : Stable r] [z : Stable t] [n : Stable y] : Stable (rT3 r t y) :=
  ⟨fun {F F' cs cs' v x} l u ⟨a, p, q, w, e, h, h1, h2, h3⟩ => ⟨a, p, q, w, e, l.h _ _ h, s.up l (Sub.refl []) h1, z.up l (Sub.refl []) h2, n.up l (Sub.refl []) h3⟩⟩
/-- a dict with int keys -/
abbrev Ens {α : Type} (r : Rep α) (F : Hp) (kvs : List (Key × V)) (xs : List (Int × α)) : Prop := Paired (fun kv x => kv.1 = Sum.inl x.1 ∧ r F [] kv.2 x.2) kvs xs
theorem Ens.up {α : Type} {r : Rep α} [s : Stable r] {F F' : Hp} (l : Le F F') {vs : List (Key × V)} {xs : List (Int × α)} (h : Ens r F vs xs) : Ens r F' vs xs := Paired.mapP h fun _ _ q => ⟨q.1, s.up l (Sub.refl []) q.2⟩
def rD {α : Type} (r : Rep α) : Rep (List (Int × α)) := fun F cs v xs => ∃ a kvs, v = .ref a ∧ (F a = some (.dK kvs) ∨ (a, .dK kvs) ∈ cs ∨ ∃ ob, (a, .frz ob (.dK kvs)) ∈ cs) ∧ Ens r F kvs xs
instance {α : Type} (r : Rep α) [s : Stable r] : Stable (rD r) := ⟨fun {F F' cs cs' v x} l u ⟨a, vs, e, h, q⟩ => ⟨a, vs, e, h.imp (l.h _ _) (Or.imp (u.h _) fun ⟨ob, z⟩ => ⟨ob, u.h _ z⟩), Ens.up l q⟩⟩
/-- an instance whose fields stay -/
def rIns (C : Addr) (fs : List (Str × V)) : Rep Unit := fun F _ v _ => ∃ a dx, v = .ref a ∧ F a = some (.ins C dx fs)
instance (C : Addr) (fs : List (Str × V)) : Stable (rIns C fs) := ⟨fun l _ ⟨a, dx, e, h⟩ => ⟨a, dx, e, l.h _ _ h⟩⟩

section read
variable {α : Type} {r : Rep α} {K : PySem.W.Frag} {F H : Hp} {cs : Cs} {v : V} {xs : List α}
theorem Sta.rd (S : Sta F cs H) {a : Addr} {vs : List V} (h : F a = some (.lst vs) ∨ (a, .lst vs) ∈ cs) : H a = some (.lst vs) := by
  rcases h with h | h
  · exact S.lst h
  · exact S.has _ h
theorem Sta.sqL (S : Sta F cs H) {a : Addr} {vs : List V} (h : F a = some (.lst vs) ∨ (a, .lst vs) ∈ cs) : SqL K H a vs := .inl (.inl (S.rd h))
theorem Sta.sqK (S : Sta F cs H) {a : Addr} {vs : List V} {o : Obj} (h : F a = some (.frz o (.lst vs))) : SqL K H a vs := .inl (.inr ⟨o, S.at' h (fun z => z)⟩)
theorem Sta.sqT (S : Sta F cs H) {a : Addr} {vs : List V} (h : F a = some (.tup vs)) : SqT K H a vs := .inl (.inl (S.tup h))
theorem Sta.rdD (S : Sta F cs H) {a : Addr} {kvs : List (Key × V)} (h : F a = some (.dK kvs) ∨ (a, .dK kvs) ∈ cs ∨ ∃ ob, (a, .frz ob (.dK kvs)) ∈ cs) : Rd H a (.dK kvs) := by
  rcases h with h | h | ⟨ob, h⟩
  · rcases S.le _ _ h with h | ⟨_, ob, h⟩
    · exact .inl h
    · exact .inr ⟨ob, h⟩
  · exact .inl (S.has _ h)
  · exact .inr ⟨ob, S.has _ h⟩
end read
theorem Els.ints {F : Hp} : ∀ {vs : List V} {xs : List Int}, Els rI F vs xs → vs = xs.map V.int
  | _, _, .nil => rfl
  | _, _, .cons h t => by rw [show _ = _ from h, Els.ints t]; rfl
theorem Els.ofInts {F : Hp} : ∀ (xs : List Int), Els rI F (xs.map V.int) xs
  | [] => .nil
  | x :: r => .cons rfl (Els.ofInts r)
theorem Els.bools {F : Hp} : ∀ {vs : List V} {xs : List Bool}, Els rB F vs xs → vs = xs.map V.bl
  | _, _, .nil => rfl
  | _, _, .cons h t => by rw [show _ = _ from h, Els.bools t]; rfl
theorem Paired.get1 {α β : Type} {R : α → β → Prop} : ∀ {xs : List α} {ys : List β} {i : Nat} {y : β}, Paired R xs ys → ys[i]? = some y → ∃ x, xs[i]? = some x ∧ R x y
  | _, _, _, _, .nil, e => by simp at e
  | _, _, 0, _, .cons h _, e => by
    simp at e; subst e; exact ⟨_, rfl, h⟩
  | _, _, i + 1, y, .cons _ t, e => by
    obtain ⟨x, h1, h2⟩ := Paired.get1 (i := i) t (by simpa using e)
    exact ⟨x, by simpa using h1, h2⟩
theorem Paired.get0 {α β : Type} {R : α → β → Prop} : ∀ {xs : List α} {ys : List β} {i : Nat} {x : α}, Paired R xs ys → xs[i]? = some x → ∃ y, ys[i]? = some y ∧ R x y
  | _, _, _, _, .nil, e => by simp at e
  | _, _, 0, _, .cons h _, e => by
    simp at e; subst e; exact ⟨_, rfl, h⟩
  | _, _, i + 1, y, .cons _ t, e => by
    obtain ⟨x, h1, h2⟩ := Paired.get0 (i := i) t (by simpa using e)
    exact ⟨x, by simpa using h1, h2⟩
theorem Paired.app {α β : Type} {R : α → β → Prop} : ∀ {xs xs' : List α} {ys ys' : List β}, Paired R xs ys → Paired R xs' ys' → Paired R (xs ++ xs') (ys ++ ys')
  | _, _, _, _, .nil, h => h
  | _, _, _, _, .cons a t, h => .cons a (Paired.app t h)

/-! ### expressions that give data -/
def GE {α : Type} (X : Cx) (σ : Sl) (F : Hp) (cs : Cs) (e : Expr) (r : Rep α) (x : α) : Prop :=
  ∀ (F1 : Hp) (cs1 : Cs) (H : Hp) (Q : VK), Le F F1 → Sub cs cs1 → Sta F1 cs1 H → (∀ v F2 H2, Le F1 F2 → Sta F2 cs1 H2 → r F2 cs1 v x → Q v H2) → WE X e σ H Q
def GT (X : Cx) (σ : Sl) (F : Hp) (cs : Cs) (e : Expr) (b : Bool) : Prop :=
  ∀ (F1 : Hp) (cs1 : Cs) (H : Hp) (Q : Bool → Hp → Prop), Le F F1 → Sub cs cs1 → Sta F1 cs1 H → (∀ F2 H2, Le F1 F2 → Sta F2 cs1 H2 → Q b H2) → WT X e σ H Q
def GW (X : Cx) (σ : Sl) (F : Hp) (cs : Cs) (e : Expr) (b : Bool) : Prop :=
  ∀ (F1 : Hp) (cs1 : Cs) (H : Hp) (Q : Bool → Hp → Prop), Le F F1 → Sub cs cs1 → Sta F1 cs1 H → (∀ F2 H2, Le F1 F2 → Sta F2 cs1 H2 → Q b H2) → WW X e σ H Q
/-- items of one kind, frozen -/
def GAs {α : Type} (X : Cx) (σ : Sl) (F : Hp) (cs : Cs) (es : List Expr) (r : Rep α) (xs : List α) : Prop :=
  ∀ (F1 : Hp) (cs1 : Cs) (H : Hp) (Q : List V → Hp → Prop), Le F F1 → Sub cs cs1 → Sta F1 cs1 H → (∀ vs F2 H2, Le F1 F2 → Sta F2 cs1 H2 → Els r F2 vs xs → Q vs H2) → WA X es σ H Q

section ge
variable {X : Cx} {σ : Sl} {F F0 : Hp} {cs cs0 : Cs} {e a b c : Expr} {pos : Pos} {α β γ : Type} {r : Rep α} {t : Rep β} {x : α} {y : β} {i j : Int} {p q : Bool}
theorem GE.mk (h : ∀ F1 cs1 H Q, Le F F1 → Sub cs cs1 → Sta F1 cs1 H → (∀ v F2 H2, Le F1 F2 → Sta F2 cs1 H2 → r F2 cs1 v x → Q v H2) → WE X e σ H Q) : GE X σ F cs e r x := h
theorem GE.up (h : GE X σ F0 cs0 e r x) [l : Le F0 F] [u : Sub cs0 cs] : GE X σ F cs e r x := fun F1 cs1 H Q l1 u1 => h F1 cs1 H Q (l.trans l1) (u.trans u1)
theorem GE.un [s : Stable r] (h : GE X σ F cs e (fz r) x) : GE X σ F cs e r x := fun F1 cs1 H Q l u S k => h F1 cs1 H Q l u S fun v F2 H2 l2 S2 q => k v F2 H2 l2 S2 (s.up (Le.refl _) (Sub.nil _) q)
/-- the value, as the wp wants it -/
theorem GE.run {H : Hp} {Q : VK} (h : GE X σ F cs e r x) (S : Sta F cs H) (k : ∀ v F2 H2, Le1 F F2 → Sta F2 cs H2 → Is r F2 cs v x → Q v H2) : WE X e σ H Q :=
  h F cs H Q (Le.refl F) (Sub.refl cs) S fun v F2 H2 l S2 q => k v F2 H2 l.one S2 ⟨q⟩
/-- a scalar: nothing else is kept -/
theorem GE.runI {H : Hp} {Q : VK} (h : GE X σ F cs e rI i) (S : Sta F cs H) (k : ∀ H2, Sta F cs H2 → Q (.int i) H2) : WE X e σ H Q :=
  h F cs H Q (Le.refl F) (Sub.refl cs) S fun v F2 H2 l S2 q => by rw [show v = .int i from q]; exact k H2 (S2.weak l)
theorem GE.runB {H : Hp} {Q : VK} (h : GE X σ F cs e rB p) (S : Sta F cs H) (k : ∀ H2, Sta F cs H2 → Q (.bl p) H2) : WE X e σ H Q :=
  h F cs H Q (Le.refl F) (Sub.refl cs) S fun v F2 H2 l S2 q => by rw [show v = .bl p from q]; exact k H2 (S2.weak l)
theorem GT.run {H : Hp} {Q : Bool → Hp → Prop} (h : GT X σ F cs e p) (S : Sta F cs H) (k : ∀ H2, Sta F cs H2 → Q p H2) : WT X e σ H Q :=
  h F cs H Q (Le.refl F) (Sub.refl cs) S fun F2 H2 l S2 => k H2 (S2.weak l)

theorem ge_int {n : Nat} : GE X σ F cs (.Constant (.int i) n pos) rI i := fun _ _ _ _ _ _ S k => weB pe_int (k _ _ _ (Le.refl _) S rfl)
theorem ge_bl {n : Nat} : GE X σ F cs (.Constant (.bool p) n pos) rB p := fun _ _ _ _ _ _ S k => weB pe_bl (k _ _ _ (Le.refl _) S rfl)
theorem ge_str {n : Nat} {z : Str} : GE X σ F cs (.Constant (.str z) n pos) rS z := fun _ _ _ _ _ _ S k => weB pe_str (k _ _ _ (Le.refl _) S rfl)
theorem ge_non {n : Nat} : GE X σ F cs (.Constant .none n pos) rN () := fun _ _ _ _ _ _ S k => weB pe_non (k _ _ _ (Le.refl _) S rfl)
theorem ge_nonO {n : Nat} : GE X σ F cs (.Constant .none n pos) (rO r) none := fun _ _ _ _ _ _ S k => weB pe_non (k _ _ _ (Le.refl _) S rfl)
theorem ge_some (hr : ∀ F cs v x, r F cs v x → v ≠ .non) (h : GE X σ F cs e r x) : GE X σ F cs e (rO r) (some x) := fun F1 cs1 H Q l u S k => h F1 cs1 H Q l u S fun v F2 H2 l2 S2 q => k v F2 H2 l2 S2 ⟨hr _ _ _ _ q, q⟩
/-- the value in a slot -/
theorem ge_v {n : Nat} {z : Str} {v : V} (hN : X.N[n]? = some z) (hσ : σ[n]? = some (some v)) (h : Is r F0 cs0 v x) [s : Stable r] [l : Le F0 F] [u : Sub cs0 cs] (hv : Vis X.env.scope z := by first | exact Or.inl rfl | exact Or.inr (Or.inl rfl) | exact Or.inr (Or.inr rfl))
    (hd : (z == ("__debug__" : Str)) = false := by decide) (hcd : (z == ("__classdict__" : Str)) = false := by decide) : GE X σ F cs (.Name z pos) r x := fun F1 cs1 H Q l1 u1 S k =>
  weB (pe_var hN hv hd hcd) ⟨v, hσ, k v F1 H (Le.refl _) S (s.up (l.trans l1) (u.trans u1) h.h)⟩
theorem ge_vi {n : Nat} {z : Str} (hN : X.N[n]? = some z) (hσ : σ[n]? = some (some (.int i))) (hv : Vis X.env.scope z := by first | exact Or.inl rfl | exact Or.inr (Or.inl rfl) | exact Or.inr (Or.inr rfl))
    (hd : (z == ("__debug__" : Str)) = false := by decide) (hcd : (z == ("__classdict__" : Str)) = false := by decide) : GE X σ F cs (.Name z pos) rI i := fun F1 cs1 H Q l1 u1 S k =>
  weB (pe_var hN hv hd hcd) ⟨_, hσ, k _ F1 H (Le.refl _) S rfl⟩
theorem ge_vb {n : Nat} {z : Str} (hN : X.N[n]? = some z) (hσ : σ[n]? = some (some (.bl p))) (hv : Vis X.env.scope z := by first | exact Or.inl rfl | exact Or.inr (Or.inl rfl) | exact Or.inr (Or.inr rfl))
    (hd : (z == ("__debug__" : Str)) = false := by decide) (hcd : (z == ("__classdict__" : Str)) = false := by decide) : GE X σ F cs (.Name z pos) rB p := fun F1 cs1 H Q l1 u1 S k =>
  weB (pe_var hN hv hd hcd) ⟨_, hσ, k _ F1 H (Le.refl _) S rfl⟩
/-- a slot that holds a cell with a list -/
theorem ge_vc {n : Nat} {z : Str} {w : Addr} {vs : List V} {xs : List α} (hN : X.N[n]? = some z) (hσ : σ[n]? = some (some (.ref w))) (hm : (w, .lst vs) ∈ cs) (h : Els r F0 vs xs) [s : Stable r] [l : Le F0 F] (hv : Vis X.env.scope z := by first | exact Or.inl rfl | exact Or.inr (Or.inl rfl) | exact Or.inr (Or.inr rfl))
    (hd : (z == ("__debug__" : Str)) = false := by decide) (hcd : (z == ("__classdict__" : Str)) = false := by decide) : GE X σ F cs (.Name z pos) (rL r) xs := fun F1 cs1 H Q l1 u1 S k =>
  weB (pe_var hN hv hd hcd) ⟨_, hσ, k _ F1 H (Le.refl _) S ⟨w, vs, rfl, .inr (u1.h _ hm), h.up (l.trans l1)⟩⟩
/-- .. with a dict -/
theorem ge_vd {n : Nat} {z : Str} {w : Addr} {kvs : List (Key × V)} {xs : List (Int × α)} (hN : X.N[n]? = some z) (hσ : σ[n]? = some (some (.ref w))) (hm : (w, .dK kvs) ∈ cs) (h : Ens r F0 kvs xs) [s : Stable r] [l : Le F0 F] (hv : Vis X.env.scope z := by first | exact Or.inl rfl | exact Or.inr (Or.inl rfl) | exact Or.inr (Or.inr rfl))
    (hd : (z == ("__debug__" : Str)) = false := by decide) (hcd : (z == ("__classdict__" : Str)) = false := by decide) : GE X σ F cs (.Name z pos) (rD r) xs := fun F1 cs1 H Q l1 u1 S k =>
  weB (pe_var hN hv hd hcd) ⟨_, hσ, k _ F1 H (Le.refl _) S ⟨w, kvs, rfl, .inr (.inl (u1.h _ hm)), h.up (l.trans l1)⟩⟩
/-- a module's int -/
theorem ge_gi {z : Str} (hg : Gl X z) (hm : ∃ tk, X.mg z = some (.int i tk)) (hd : (z == ("__debug__" : Str)) = false := by decide) : GE X σ F cs (.Name z pos) rI i := fun F1 cs1 H Q l1 u1 S k => by
  obtain ⟨tk, hm⟩ := hm
  exact weB (pe_glob (v := .int i) hg hm ⟨tk, rfl⟩ hd) (k _ F1 H (Le.refl _) S rfl)

/-- two operands, then a rule by values -/
theorem ge_op2 {ho : R2} {op : Operator} (h : OpR X (binaryOp op) ho) (ha : GE X σ F cs a r x) (hb : GE X σ F cs b t y) {z : γ} {u : Rep γ} [s : Stable r]
    (k : ∀ (F2 : Hp) (cs1 : Cs) (H2 : Hp) (v w : V) (Q : VK), Sub cs cs1 → Sta F2 cs1 H2 → r F2 cs1 v x → t F2 cs1 w y → (∀ v F3 H3, Le F2 F3 → Sta F3 cs1 H3 → u F3 cs1 v z → Q v H3) → ho v w H2 Q) : GE X σ F cs (.BinOp a op b pos) u z := fun F1 cs1 H Q l1 u1 S q =>
  weB (pe_op h peW peW) (ha F1 cs1 H _ l1 u1 S fun v F2 H2 l2 S2 hr => hb F2 cs1 H2 _ (l1.trans l2) u1 S2 fun w F3 H3 l3 S3 ht =>
    k F3 cs1 H3 v w Q u1 S3 (s.up l3 (Sub.refl _) hr) ht fun v' F4 H4 l4 => q v' F4 H4 (l2.trans (l3.trans l4)))
theorem ge_add (ha : GE X σ F cs a rI i) (hb : GE X σ F cs b rI j) : GE X σ F cs (.BinOp a .Add b pos) rI (i + j) :=
  ge_op2 op_add ha hb fun _ _ _ _ _ _ _ S h1 h2 q => ⟨i, j, h1, h2, q _ _ _ (Le.refl _) S rfl⟩
theorem ge_sub (ha : GE X σ F cs a rI i) (hb : GE X σ F cs b rI j) : GE X σ F cs (.BinOp a .Sub b pos) rI (i - j) :=
  ge_op2 op_sub ha hb fun _ _ _ _ _ _ _ S h1 h2 q => ⟨i, j, h1, h2, q _ _ _ (Le.refl _) S rfl⟩
theorem ge_mul (ha : GE X σ F cs a rI i) (hb : GE X σ F cs b rI j) (hc : CMul i j) : GE X σ F cs (.BinOp a .Mult b pos) rI (i * j) :=
  ge_op2 op_mul ha hb fun _ _ _ _ _ _ _ S h1 h2 q => ⟨i, j, h1, h2, hc, q _ _ _ (Le.refl _) S rfl⟩
theorem ge_mod (ha : GE X σ F cs a rI i) (hb : GE X σ F cs b rI j) (hc : 0 < j) : GE X σ F cs (.BinOp a .Mod b pos) rI (i % j) :=
  ge_op2 op_mod ha hb fun _ _ _ _ _ _ _ S h1 h2 q => ⟨i, j, h1, h2, hc, q _ _ _ (Le.refl _) S rfl⟩
theorem ge_fdiv (ha : GE X σ F cs a rI i) (hb : GE X σ F cs b rI j) (hc : CDiv i j) : GE X σ F cs (.BinOp a .FloorDiv b pos) rI (i / j) :=
  ge_op2 op_fdiv ha hb fun _ _ _ _ _ _ _ S h1 h2 q => ⟨i, j, h1, h2, hc, q _ _ _ (Le.refl _) S rfl⟩
theorem ge_pow (ha : GE X σ F cs a rI i) (hb : GE X σ F cs b rI j) (hc : CPow i j) : GE X σ F cs (.BinOp a .Pow b pos) rI (i ^ j.toNat) :=
  ge_op2 op_pow ha hb fun _ _ _ _ _ _ _ S h1 h2 q => ⟨i, j, h1, h2, hc, q _ _ _ (Le.refl _) S rfl⟩
theorem ge_neg (ha : GE X σ F cs a rI i) : GE X σ F cs (.UnaryOp .USub a pos) rI (-i) := fun F1 cs1 H Q l1 u1 S q =>
  weB (pe_un un_neg peW) (ha F1 cs1 H _ l1 u1 S fun v F2 H2 l2 S2 hr => ⟨i, hr, q _ F2 H2 l2 S2 rfl⟩)

/-- a comparison: a, then b, then the operator -/
def WC (X : Cx) (op : CmpOp) (a b : Expr) (σ : Sl) (H : Hp) (Q : VK) : Prop :=
  ∀ (pins : List (Addr × Obj)) (s : Shared), Inv X pins σ H s → wpAny (model X.prog X.w) X.A (eval a X.env) (fun v s₁ => wpAny (model X.prog X.w) X.A (eval b X.env) (fun u s₂ => wpAny (model X.prog X.w) X.A (compareOp op v u) (EP X pins σ Q) X.xe s₂) X.xe s₁) X.xe s
theorem pcW {op : CmpOp} : PC X op a b (WC X op a b) := ⟨fun pins s _ _ _ I h => h pins s I⟩
theorem wcB {op : CmpOp} {H : Hp} {Q : VK} {te : TE} (h : PC X op a b te) (q : te σ H Q) : WC X op a b σ H Q := fun pins s I => h.run pins s σ H Q I q
theorem pc_op {op : CmpOp} {ho : R2} {ta tb : TE} (h : OpR X (compareOp op) ho) (ha : PE X a ta) (hb : PE X b tb) : PC X op a b (tOp ho ta tb) :=
  ⟨fun pins s σ H Q I q => bin ha hb I q fun v u s2 x y H2 I2 rx ry q => h pins s2 σ H2 x y v u Q I2 rx ry q⟩
def GC (X : Cx) (σ : Sl) (F : Hp) (cs : Cs) (op : CmpOp) (a b : Expr) (p : Bool) : Prop :=
  ∀ (F1 : Hp) (cs1 : Cs) (H : Hp) (Q : VK), Le F F1 → Sub cs cs1 → Sta F1 cs1 H → (∀ F2 H2, Le F1 F2 → Sta F2 cs1 H2 → Q (.bl p) H2) → WC X op a b σ H Q
theorem ge_c {op : CmpOp} (h : GC X σ F cs op a b p) (hm : behindInMarks op b = false := by first | exact nomark _ | rfl) : GE X σ F cs (.Compare a [op] [b] pos) rB p := fun F1 cs1 H Q l u S q =>
  weB (pe_cmp pcW hm) (h F1 cs1 H Q l u S fun F2 H2 l2 S2 => q _ F2 H2 l2 S2 rfl)
theorem gt_c {op : CmpOp} (h : GC X σ F cs op a b p) (hm : behindInMarks op b = false := by first | exact nomark _ | rfl) : GT X σ F cs (.Compare a [op] [b] pos) p := fun F1 cs1 H Q l u S q =>
  wtB (pt_cmp pcW hm) (h F1 cs1 H _ l u S fun F2 H2 l2 S2 => ⟨p, rfl, q F2 H2 l2 S2⟩)
theorem gc_op {ho : R2} {op : CmpOp} (h : OpR X (compareOp op) ho) (ha : GE X σ F cs a r x) (hb : GE X σ F cs b t y) [s : Stable r]
    (k : ∀ (F2 : Hp) (cs1 : Cs) (H2 : Hp) (v w : V) (Q : VK), Sub cs cs1 → Sta F2 cs1 H2 → r F2 cs1 v x → t F2 cs1 w y → Q (.bl p) H2 → ho v w H2 Q) : GC X σ F cs op a b p := fun F1 cs1 H Q l1 u1 S q =>
  wcB (pc_op h peW peW) (ha F1 cs1 H _ l1 u1 S fun v F2 H2 l2 S2 hr => hb F2 cs1 H2 _ (l1.trans l2) u1 S2 fun w F3 H3 l3 S3 ht =>
    k F3 cs1 H3 v w Q u1 S3 (s.up l3 (Sub.refl _) hr) ht (q F3 H3 (l2.trans l3) S3))
theorem gc_lt (ha : GE X σ F cs a rI i) (hb : GE X σ F cs b rI j) : GC X σ F cs .Lt a b (decide (i < j)) := gc_op op_lt ha hb fun _ _ _ _ _ _ _ S h1 h2 q => ⟨i, j, h1, h2, q⟩
theorem gc_le (ha : GE X σ F cs a rI i) (hb : GE X σ F cs b rI j) : GC X σ F cs .LtE a b (decide (i ≤ j)) := gc_op op_le ha hb fun _ _ _ _ _ _ _ S h1 h2 q => ⟨i, j, h1, h2, q⟩
theorem gc_gt (ha : GE X σ F cs a rI i) (hb : GE X σ F cs b rI j) : GC X σ F cs .Gt a b (decide (j < i)) := gc_op op_gt ha hb fun _ _ _ _ _ _ _ S h1 h2 q => ⟨i, j, h1, h2, q⟩
theorem gc_ge (ha : GE X σ F cs a rI i) (hb : GE X σ F cs b rI j) : GC X σ F cs .GtE a b (decide (j ≤ i)) := gc_op op_ge ha hb fun _ _ _ _ _ _ _ S h1 h2 q => ⟨i, j, h1, h2, q⟩
theorem int_eq {i j : Int} : decide (V.int i = V.int j) = decide (i = j) := by
  by_cases h : i = j
  · subst h; simp
  · rw [decide_eq_false h, decide_eq_false fun z => h (V.int.inj z)]
theorem bl_eq {i j : Bool} : decide (V.bl i = V.bl j) = (i == j) := by
  cases i <;> cases j <;> rfl
theorem gc_eq (ha : GE X σ F cs a rI i) (hb : GE X σ F cs b rI j) : GC X σ F cs .Eq a b (decide (i = j)) :=
  gc_op op_eq ha hb fun _ _ _ _ _ _ _ S h1 h2 q => by rw [show _ = _ from h1, show _ = _ from h2]; exact ⟨rfl, by rw [int_eq]; exact q⟩
theorem gc_ne (ha : GE X σ F cs a rI i) (hb : GE X σ F cs b rI j) : GC X σ F cs .NotEq a b (!decide (i = j)) :=
  gc_op op_ne ha hb fun _ _ _ _ _ _ _ S h1 h2 q => by rw [show _ = _ from h1, show _ = _ from h2]; exact ⟨rfl, by rw [int_eq]; exact q⟩
theorem gc_eqB (ha : GE X σ F cs a rB p) (hb : GE X σ F cs b rB q) : GC X σ F cs .Eq a b (p == q) :=
  gc_op op_eq ha hb fun _ _ _ _ _ _ _ S h1 h2 z => by rw [show _ = _ from h1, show _ = _ from h2]; exact ⟨rfl, by rw [bl_eq]; exact z⟩
theorem gc_isN {m : Nat} {ps : Pos} {o : Option α} [Stable r] (ha : GE X σ F cs a (rO r) o) : GC X σ F cs .Is a (.Constant .none m ps) o.isNone :=
  gc_op op_isN ha ge_non fun _ _ _ v w Q _ S h1 h2 q => ⟨h2, by
    cases o with
    | none => rw [show v = .non from h1]; exact q
    | some y => rw [decide_eq_false h1.1]; exact q⟩
theorem gc_notN {m : Nat} {ps : Pos} {o : Option α} [Stable r] (ha : GE X σ F cs a (rO r) o) : GC X σ F cs .IsNot a (.Constant .none m ps) o.isSome :=
  gc_op op_notN ha ge_non fun _ _ _ v w Q _ S h1 h2 q => ⟨h2, by
    cases o with
    | none => rw [show v = .non from h1]; exact q
    | some y => rw [decide_eq_false h1.1]; exact q⟩
theorem ge_chain {o1 o2 : CmpOp} {r1 r2 : Int → Int → Bool} {k : Int} (h1 : OpR X (compareOp o1) (rI0 fun i j => .bl (r1 i j))) (h2 : OpR X (compareOp o2) (rI0 fun i j => .bl (r2 i j)))
    (ha : GE X σ F cs a rI i) (hb : GE X σ F cs b rI j) (hc : GE X σ F cs c rI k)
    (m1 : lastMarks [o1, o2] [b, c] = false := by with_unfolding_all rfl) : GE X σ F cs (.Compare a [o1, o2] [b, c] pos) rB (r1 i j && r2 j k) := fun F1 cs1 H Q l1 u1 S q =>
  weB (pe_chain h1 h2 peW peW peW m1) (ha F1 cs1 H _ l1 u1 S fun v F2 H2 l2 S2 e1 => hb F2 cs1 H2 _ (l1.trans l2) u1 S2 fun w F3 H3 l3 S3 e2 => ⟨i, j, e1, e2, r1 i j, rfl, by
    cases z : r1 i j with
    | true =>
      rw [if_pos rfl]
      exact hc F3 cs1 H3 _ (l1.trans (l2.trans l3)) u1 S3 fun y F4 H4 l4 S4 e3 => ⟨j, k, e2, e3, q _ _ _ (l2.trans (l3.trans l4)) S4 (by show _ = _; rw [z]; rfl)⟩
    | false =>
      rw [if_neg Bool.false_ne_true]
      exact q _ _ _ (l2.trans l3) S3 (by show _ = _; rw [z]; rfl)⟩)
theorem gt_chain {o1 o2 : CmpOp} {r1 r2 : Int → Int → Bool} {k : Int} (h1 : OpR X (compareOp o1) (rI0 fun i j => .bl (r1 i j))) (h2 : OpR X (compareOp o2) (rI0 fun i j => .bl (r2 i j)))
    (ha : GE X σ F cs a rI i) (hb : GE X σ F cs b rI j) (hc : GE X σ F cs c rI k)
    (m1 : lastMarks [o1, o2] [b, c] = false := by with_unfolding_all rfl) : GT X σ F cs (.Compare a [o1, o2] [b, c] pos) (r1 i j && r2 j k) := fun F1 cs1 H Q l1 u1 S q =>
  wtB (pt_chain h1 h2 peW peW peW m1) (ha F1 cs1 H _ l1 u1 S fun v F2 H2 l2 S2 e1 => hb F2 cs1 H2 _ (l1.trans l2) u1 S2 fun w F3 H3 l3 S3 e2 => ⟨i, j, e1, e2, r1 i j, rfl, by
    cases z : r1 i j with
    | true =>
      rw [if_pos rfl]
      exact hc F3 cs1 H3 _ (l1.trans (l2.trans l3)) u1 S3 fun y F4 H4 l4 S4 e3 => ⟨j, k, e2, e3, _, rfl, by have := q _ _ (l2.trans (l3.trans l4)) S4; rw [z] at this; exact this⟩
    | false =>
      rw [if_neg Bool.false_ne_true]
      exact ⟨_, rfl, by have := q _ _ (l2.trans l3) S3; rw [z] at this; exact this⟩⟩)

/-! tests -/
theorem gt_of (h : GE X σ F cs e rB p) (he : ∀ whole, isTrue e X.env whole = (do let v ← whole; standAt e.pos; holding [v] (truthy v)) := by intro _; rfl) : GT X σ F cs e p := fun F1 cs1 H Q l1 u1 S q =>
  wtB (pt_val peW he) (h F1 cs1 H _ l1 u1 S fun v F2 H2 l2 S2 e => ⟨p, e, q F2 H2 l2 S2⟩)
theorem gt_not (h : GT X σ F cs a p) : GT X σ F cs (.UnaryOp .Not a pos) (!p) := fun F1 cs1 H Q l u S q => wtB (pt_not ptW) (h F1 cs1 H _ l u S q)
theorem gw_and1 (h : GT X σ F cs a p) : GW X σ F cs (.BoolOp .And [a] pos) p := fun F1 cs1 H Q l u S q => wwB (pw_and1 ptW) (h F1 cs1 H _ l u S q)
theorem gw_or1 (h : GT X σ F cs a p) : GW X σ F cs (.BoolOp .Or [a] pos) p := fun F1 cs1 H Q l u S q => wwB (pw_or1 ptW) (h F1 cs1 H _ l u S q)
theorem gw_and {rest : List Expr} (h : GT X σ F cs a p) (h2 : p = true → GW X σ F cs (.BoolOp .And (b :: rest) pos) q) : GW X σ F cs (.BoolOp .And (a :: b :: rest) pos) (p && q) := fun F1 cs1 H Q l u S k =>
  wwB (pw_and ptW pwW) (h F1 cs1 H _ l u S fun F2 H2 l2 S2 => by
    cases p with
    | true => rw [if_pos rfl]; exact h2 rfl F2 cs1 H2 _ (l.trans l2) u S2 fun F3 H3 l3 S3 => k F3 H3 (l2.trans l3) S3
    | false => rw [if_neg Bool.false_ne_true]; exact k F2 H2 l2 S2)
theorem gw_or {rest : List Expr} (h : GT X σ F cs a p) (h2 : p = false → GW X σ F cs (.BoolOp .Or (b :: rest) pos) q) : GW X σ F cs (.BoolOp .Or (a :: b :: rest) pos) (p || q) := fun F1 cs1 H Q l u S k =>
  wwB (pw_or ptW pwW) (h F1 cs1 H _ l u S fun F2 H2 l2 S2 => by
    cases p with
    | true => rw [if_pos rfl]; exact k F2 H2 l2 S2
    | false => rw [if_neg Bool.false_ne_true]; exact h2 rfl F2 cs1 H2 _ (l.trans l2) u S2 fun F3 H3 l3 S3 => k F3 H3 (l2.trans l3) S3)
theorem GW.to (h : GW X σ F cs e p) : GT X σ F cs e p := fun F1 cs1 H Q l u S k => wtB (PW.pt pwW) (h F1 cs1 H Q l u S k)
theorem ge_and1 {op : BoolOp} (h : GE X σ F cs a r x) : GE X σ F cs (.BoolOp op [a] pos) r x := fun F1 cs1 H Q l u S q => weB (pe_one peW) (h F1 cs1 H _ l u S q)
theorem ge_and {rest : List Expr} (h : GE X σ F cs a rB p) (h2 : p = true → GE X σ F cs (.BoolOp .And (b :: rest) pos) rB q) : GE X σ F cs (.BoolOp .And (a :: b :: rest) pos) rB (p && q) := fun F1 cs1 H Q l u S k =>
  weB (pe_and peW peW) (h F1 cs1 H _ l u S fun v F2 H2 l2 S2 e => ⟨p, e, by
    cases p with
    | true => rw [if_pos rfl]; exact h2 rfl F2 cs1 H2 _ (l.trans l2) u S2 fun w F3 H3 l3 S3 e3 => k _ F3 H3 (l2.trans l3) S3 e3
    | false => rw [if_neg Bool.false_ne_true]; exact k _ F2 H2 l2 S2 rfl⟩)
theorem ge_or {rest : List Expr} (h : GE X σ F cs a rB p) (h2 : p = false → GE X σ F cs (.BoolOp .Or (b :: rest) pos) rB q) : GE X σ F cs (.BoolOp .Or (a :: b :: rest) pos) rB (p || q) := fun F1 cs1 H Q l u S k =>
  weB (pe_or peW peW) (h F1 cs1 H _ l u S fun v F2 H2 l2 S2 e => ⟨p, e, by
    cases p with
    | true => rw [if_pos rfl]; exact k _ F2 H2 l2 S2 rfl
    | false => rw [if_neg Bool.false_ne_true]; exact h2 rfl F2 cs1 H2 _ (l.trans l2) u S2 fun w F3 H3 l3 S3 e3 => k _ F3 H3 (l2.trans l3) S3 e3⟩)
theorem ge_not (h : GE X σ F cs a rB p) : GE X σ F cs (.UnaryOp .Not a pos) rB (!p) := fun F1 cs1 H Q l u S k =>
  weB (pe_not peW) (h F1 cs1 H _ l u S fun v F2 H2 l2 S2 e => ⟨p, e, k _ F2 H2 l2 S2 rfl⟩)
theorem ge_if (h : GT X σ F cs c p) (ht : p = true → GE X σ F cs a r x) (hf : p = false → GE X σ F cs b r x) : GE X σ F cs (.IfExp c a b pos) r x := fun F1 cs1 H Q l u S k =>
  weB (pe_ifExp ptW peW peW) (h F1 cs1 H _ l u S fun F2 H2 l2 S2 => by
    cases p with
    | true => rw [if_pos rfl]; exact ht rfl F2 cs1 H2 _ (l.trans l2) u S2 fun w F3 H3 l3 S3 e3 => k _ F3 H3 (l2.trans l3) S3 e3
    | false => rw [if_neg Bool.false_ne_true]; exact hf rfl F2 cs1 H2 _ (l.trans l2) u S2 fun w F3 H3 l3 S3 e3 => k _ F3 H3 (l2.trans l3) S3 e3)
theorem ge_ite {x y : α} (h : GT X σ F cs c p) (ht : p = true → GE X σ F cs a r x) (hf : p = false → GE X σ F cs b r y) : GE X σ F cs (.IfExp c a b pos) r (if p = true then x else y) :=
  ge_if h (fun e => by rw [if_pos e]; exact ht e) (fun e => by rw [if_neg (by rw [e]; exact Bool.false_ne_true)]; exact hf e)
end ge
end DL

-- part DLb
/-! DL, second part: containers, built-in functions, displays. -/
namespace DL
open PySem PySem.Spec PyProof.Rows L2

section
variable {X : Cx} {σ : Sl} {F F0 : Hp} {cs cs0 : Cs} {e a b c : Expr} {pos : Pos} {α β γ : Type} {r : Rep α} {t : Rep β} {x : α} {y : β} {i j : Int} {p q : Bool}
/-- what the machine's own heap says of the tracked sizes -/
theorem WE.known {H : Hp} {Q : VK} (h : (∀ a vs, Rd H a (.lst vs) → vs.length ≤ sizeLine) → (∀ a vs, H a = some (.tup vs) → vs.length ≤ sizeLine) → WE X e σ H Q) : WE X e σ H Q := fun pins s I =>
  h (fun a vs q => (q.ok I.hok).1) (fun a vs q => (I.hok a _ q).1) pins s I
theorem WSs.known {H : Hp} {st : List Stmt} {D : Ends} (h : (∀ a vs, Rd H a (.lst vs) → vs.length ≤ sizeLine) → (∀ a vs, H a = some (.tup vs) → vs.length ≤ sizeLine) → WSs X st D σ H) : WSs X st D σ H := fun pins s I =>
  h (fun a vs q => (q.ok I.hok).1) (fun a vs q => (I.hok a _ q).1) pins s I
/-- a built-in function of one argument -/
theorem ge_b1 {id : String} {z : Str} {rr : List V → Hp → VK → Prop} {pp : Pos} {u : Rep γ} {w : γ} (hc : CallR X (.builtin id) rr) (hg : Gl X z) (hm : X.mg z = none) (hv : bootBuiltins z = some (.builtin id)) (ha : GE X σ F cs a r x)
    (k : ∀ (F2 : Hp) (cs1 : Cs) (H2 : Hp) (v : V) (Q : VK), Le F F2 → Sub cs cs1 → Sta F2 cs1 H2 → r F2 cs1 v x → (∀ v F3 H3, Le F2 F3 → Sta F3 cs1 H3 → u F3 cs1 v w → Q v H3) → rr [v] H2 Q)
    (hn : z ≠ "__name__" := by decide) (hdb : (z == ("__debug__" : Str)) = false := by decide)
    (he : starEach [a] X.env = (false, eval a X.env) :: starEach [] X.env := by rfl) (hpl : (backTo pos (starEach [] X.env)).any (·.1) = false := by rfl) : GE X σ F cs (.Call (.Name z pp) [a] [] pos) u w := fun F1 cs1 H Q l1 u1 S q =>
  weB (pe_callB hc hg hm hv (pa_cons peW pa_nil he) hn hdb he hpl) (ha F1 cs1 H _ l1 u1 S fun v F2 H2 l2 S2 hr => k F2 cs1 H2 v Q (l1.trans l2) u1 S2 hr fun v' F3 H3 l3 => q v' F3 H3 (l2.trans l3))
theorem ge_ty1 {T : String} {z : Str} {rr : List V → Hp → VK → Prop} {pp : Pos} {u : Rep γ} {w : γ} (hc : CallR X (.type T) rr) (hg : Gl X z) (hm : X.mg z = none) (hv : bootBuiltins z = some (.type T)) (ha : GE X σ F cs a r x)
    (k : ∀ (F2 : Hp) (cs1 : Cs) (H2 : Hp) (v : V) (Q : VK), Le F F2 → Sub cs cs1 → Sta F2 cs1 H2 → r F2 cs1 v x → (∀ v F3 H3, Le F2 F3 → Sta F3 cs1 H3 → u F3 cs1 v w → Q v H3) → rr [v] H2 Q)
    (hn : z ≠ "__name__" := by decide) (hdb : (z == ("__debug__" : Str)) = false := by decide)
    (he : starEach [a] X.env = (false, eval a X.env) :: starEach [] X.env := by rfl) (hpl : (backTo pos (starEach [] X.env)).any (·.1) = false := by rfl) : GE X σ F cs (.Call (.Name z pp) [a] [] pos) u w := fun F1 cs1 H Q l1 u1 S q =>
  weB (pe_callTy hc hg hm hv (pa_cons peW pa_nil he) hn hdb he hpl) (ha F1 cs1 H _ l1 u1 S fun v F2 H2 l2 S2 hr => k F2 cs1 H2 v Q (l1.trans l2) u1 S2 hr fun v' F3 H3 l3 => q v' F3 H3 (l2.trans l3))
theorem ge_b2 {id : String} {z : Str} {rr : List V → Hp → VK → Prop} {pp : Pos} {u : Rep γ} {w : γ} (hc : CallR X (.builtin id) rr) (hg : Gl X z) (hm : X.mg z = none) (hv : bootBuiltins z = some (.builtin id)) (ha : GE X σ F cs a r x) (hb : GE X σ F cs b t y) [s : Stable r]
    (k : ∀ (F2 : Hp) (cs1 : Cs) (H2 : Hp) (v v2 : V) (Q : VK), Le F F2 → Sub cs cs1 → Sta F2 cs1 H2 → r F2 cs1 v x → t F2 cs1 v2 y → (∀ v F3 H3, Le F2 F3 → Sta F3 cs1 H3 → u F3 cs1 v w → Q v H3) → rr [v, v2] H2 Q)
    (hn : z ≠ "__name__" := by decide) (hdb : (z == ("__debug__" : Str)) = false := by decide)
    (he : starEach [a, b] X.env = (false, eval a X.env) :: starEach [b] X.env := by rfl) (he2 : starEach [b] X.env = (false, eval b X.env) :: starEach [] X.env := by rfl) (hpl : (backTo pos (starEach [b] X.env)).any (·.1) = false := by rfl) : GE X σ F cs (.Call (.Name z pp) [a, b] [] pos) u w := fun F1 cs1 H Q l1 u1 S q =>
  weB (pe_callB hc hg hm hv (pa_cons peW (pa_cons peW pa_nil he2) he) hn hdb he hpl) (ha F1 cs1 H _ l1 u1 S fun v F2 H2 l2 S2 hr => hb F2 cs1 H2 _ (l1.trans l2) u1 S2 fun v2 F3 H3 l3 S3 ht =>
    k F3 cs1 H3 v v2 Q (l1.trans (l2.trans l3)) u1 S3 (s.up l3 (Sub.refl _) hr) ht fun v' F4 H4 l4 => q v' F4 H4 (l2.trans (l3.trans l4)))

theorem boot_all : bootBuiltins "all" = some (.builtin "all") := by decide +kernel
theorem boot_any : bootBuiltins "any" = some (.builtin "any") := by decide +kernel
theorem boot_sorted : bootBuiltins "sorted" = some (.builtin "sorted") := by decide +kernel
theorem boot_sum : bootBuiltins "sum" = some (.builtin "sum") := by decide +kernel
theorem boot_abs : bootBuiltins "abs" = some (.builtin "abs") := by decide +kernel
theorem boot_min : bootBuiltins "min" = some (.builtin "min") := by decide +kernel
theorem boot_max : bootBuiltins "max" = some (.builtin "max") := by decide +kernel
theorem boot_intT : bootBuiltins "int" = some (.type "int") := by decide +kernel
theorem boot_boolT : bootBuiltins "bool" = some (.type "bool") := by decide +kernel
theorem boot_listT : bootBuiltins "list" = some (.type "list") := by decide +kernel
theorem boot_tupleT : bootBuiltins "tuple" = some (.type "tuple") := by decide +kernel
theorem boot_dictT : bootBuiltins "dict" = some (.type "dict") := by decide +kernel
theorem boot_setT : bootBuiltins "set" = some (.type "set") := by decide +kernel

theorem Els.len {F : Hp} {vs : List V} {xs : List α} (h : Els r F vs xs) : vs.length = xs.length := Paired.length h
theorem ge_lenL {pp : Pos} {xs : List α} (hg : Gl X "len") (hm : X.mg "len" = none) (ha : GE X σ F cs a (rL r) xs)
    (he : starEach [a] X.env = (false, eval a X.env) :: starEach [] X.env := by rfl) (hpl : (backTo pos (starEach [] X.env)).any (·.1) = false := by rfl) : GE X σ F cs (.Call (.Name "len" pp) [a] [] pos) rI (xs.length : Int) :=
  ge_b1 call_len_seq hg hm PySem.boot_len ha (fun F2 cs1 H2 v Q l u S ⟨w, vs, e, h, hp⟩ q => ⟨w, vs, by rw [e], .inl (S.sqL h), q _ F2 H2 (Le.refl _) S (by show V.int _ = _; rw [hp.len])⟩) (he := he) (hpl := hpl)
theorem ge_lenQ {pp : Pos} {xs : List α} (hg : Gl X "len") (hm : X.mg "len" = none) (ha : GE X σ F cs a (rQ r) xs)
    (he : starEach [a] X.env = (false, eval a X.env) :: starEach [] X.env := by rfl) (hpl : (backTo pos (starEach [] X.env)).any (·.1) = false := by rfl) : GE X σ F cs (.Call (.Name "len" pp) [a] [] pos) rI (xs.length : Int) :=
  ge_b1 call_len_seq hg hm PySem.boot_len ha (fun F2 cs1 H2 v Q l u S h q => by
    rcases h with ⟨w, vs, e, h, hp⟩ | ⟨w, vs, e, h, hp⟩
    · exact ⟨w, vs, by rw [e], .inl (S.sqL h), q _ F2 H2 (Le.refl _) S (by show V.int _ = _; rw [hp.len])⟩
    · exact ⟨w, vs, by rw [e], .inr (S.sqT h), q _ F2 H2 (Le.refl _) S (by show V.int _ = _; rw [hp.len])⟩) (he := he) (hpl := hpl)
theorem ge_all {pp : Pos} {bs : List Bool} (hc : X.calm = true) (hg : Gl X "all") (hm : X.mg "all" = none) (ha : GE X σ F cs a (rL rB) bs)
    (he : starEach [a] X.env = (false, eval a X.env) :: starEach [] X.env := by rfl) (hpl : (backTo pos (starEach [] X.env)).any (·.1) = false := by rfl) : GE X σ F cs (.Call (.Name "all" pp) [a] [] pos) rB (bs.all id) :=
  ge_b1 (cr_all hc) hg hm boot_all ha (fun F2 cs1 H2 v Q l u S ⟨w, vs, e, h, hp⟩ q => ⟨w, bs, by rw [e], by rw [← hp.bools]; exact S.sqL h, q _ F2 H2 (Le.refl _) S rfl⟩) (he := he) (hpl := hpl)
theorem ge_any {pp : Pos} {bs : List Bool} (hc : X.calm = true) (hg : Gl X "any") (hm : X.mg "any" = none) (ha : GE X σ F cs a (rL rB) bs)
    (he : starEach [a] X.env = (false, eval a X.env) :: starEach [] X.env := by rfl) (hpl : (backTo pos (starEach [] X.env)).any (·.1) = false := by rfl) : GE X σ F cs (.Call (.Name "any" pp) [a] [] pos) rB (bs.any id) :=
  ge_b1 (cr_any hc) hg hm boot_any ha (fun F2 cs1 H2 v Q l u S ⟨w, vs, e, h, hp⟩ q => ⟨w, bs, by rw [e], by rw [← hp.bools]; exact S.sqL h, q _ F2 H2 (Le.refl _) S rfl⟩) (he := he) (hpl := hpl)
theorem ge_sum {pp : Pos} {ns : List Int} (hc : X.calm = true) (hg : Gl X "sum") (hm : X.mg "sum" = none) (ha : GE X σ F cs a (rL rI) ns)
    (he : starEach [a] X.env = (false, eval a X.env) :: starEach [] X.env := by rfl) (hpl : (backTo pos (starEach [] X.env)).any (·.1) = false := by rfl) : GE X σ F cs (.Call (.Name "sum" pp) [a] [] pos) rI ns.sum :=
  ge_b1 (cr_sum hc) hg hm boot_sum ha (fun F2 cs1 H2 v Q l u S ⟨w, vs, e, h, hp⟩ q => ⟨w, ns, by rw [e], by rw [← hp.ints]; exact S.sqL h, q _ F2 H2 (Le.refl _) S rfl⟩) (he := he) (hpl := hpl)
theorem ge_abs {pp : Pos} (hg : Gl X "abs") (hm : X.mg "abs" = none) (ha : GE X σ F cs a rI i)
    (he : starEach [a] X.env = (false, eval a X.env) :: starEach [] X.env := by rfl) (hpl : (backTo pos (starEach [] X.env)).any (·.1) = false := by rfl) : GE X σ F cs (.Call (.Name "abs" pp) [a] [] pos) rI (if i < 0 then -i else i) :=
  ge_b1 call_abs hg hm boot_abs ha (fun F2 cs1 H2 v Q l u S e q => ⟨i, by rw [show v = _ from e], q _ F2 H2 (Le.refl _) S rfl⟩) (he := he) (hpl := hpl)
theorem ge_intI {pp : Pos} (hg : Gl X "int") (hm : X.mg "int" = none) (ha : GE X σ F cs a rI i)
    (he : starEach [a] X.env = (false, eval a X.env) :: starEach [] X.env := by rfl) (hpl : (backTo pos (starEach [] X.env)).any (·.1) = false := by rfl) : GE X σ F cs (.Call (.Name "int" pp) [a] [] pos) rI i :=
  ge_ty1 call_int1 hg hm boot_intT ha (fun F2 cs1 H2 v Q l u S e q => .inl ⟨i, by rw [show v = _ from e], q _ F2 H2 (Le.refl _) S rfl⟩) (he := he) (hpl := hpl)
theorem ge_min2 {pp : Pos} (hc : X.calm = true) (hg : Gl X "min") (hm : X.mg "min" = none) (ha : GE X σ F cs a rI i) (hb : GE X σ F cs b rI j)
    (he : starEach [a, b] X.env = (false, eval a X.env) :: starEach [b] X.env := by rfl) (he2 : starEach [b] X.env = (false, eval b X.env) :: starEach [] X.env := by rfl) (hpl : (backTo pos (starEach [b] X.env)).any (·.1) = false := by rfl) : GE X σ F cs (.Call (.Name "min" pp) [a, b] [] pos) rI (if j < i then j else i) :=
  ge_b2 (call_min2 hc) hg hm boot_min ha hb (fun F2 cs1 H2 v v2 Q l u S e e2 q => ⟨i, j, by rw [show v = _ from e, show v2 = _ from e2], q _ F2 H2 (Le.refl _) S rfl⟩) (he := he) (he2 := he2) (hpl := hpl)
theorem ge_max2 {pp : Pos} (hc : X.calm = true) (hg : Gl X "max") (hm : X.mg "max" = none) (ha : GE X σ F cs a rI i) (hb : GE X σ F cs b rI j)
    (he : starEach [a, b] X.env = (false, eval a X.env) :: starEach [b] X.env := by rfl) (he2 : starEach [b] X.env = (false, eval b X.env) :: starEach [] X.env := by rfl) (hpl : (backTo pos (starEach [b] X.env)).any (·.1) = false := by rfl) : GE X σ F cs (.Call (.Name "max" pp) [a, b] [] pos) rI (if j > i then j else i) :=
  ge_b2 (call_max2 hc) hg hm boot_max ha hb (fun F2 cs1 H2 v v2 Q l u S e e2 q => ⟨i, j, by rw [show v = _ from e, show v2 = _ from e2], q _ F2 H2 (Le.refl _) S rfl⟩) (he := he) (he2 := he2) (hpl := hpl)
/-- list(xs), tuple(xs) -/
theorem ge_listQ {pp : Pos} {xs : List α} [s : Stable r] (hg : Gl X "list") (hm : X.mg "list" = none) (ha : GE X σ F cs a (rQ r) xs)
    (he : starEach [a] X.env = (false, eval a X.env) :: starEach [] X.env := by rfl) (hpl : (backTo pos (starEach [] X.env)).any (·.1) = false := by rfl) : GE X σ F cs (.Call (.Name "list" pp) [a] [] pos) (fz (rL r)) xs :=
  ge_ty1 call_list_of hg hm boot_listT ha (fun F2 cs1 H2 v Q l u S h q => by
    rcases h with ⟨w, vs, e, h, hp⟩ | ⟨w, vs, e, h, hp⟩
    · exact ⟨w, vs, by rw [e], .inl (S.sqL h), fun d hd => q _ _ _ (S.new hd _).1.le (S.new hd _).2 ⟨d, vs, rfl, .inl upd_same, hp.up (S.new hd _).1.le⟩⟩
    · exact ⟨w, vs, by rw [e], .inr (S.sqT h), fun d hd => q _ _ _ (S.new hd _).1.le (S.new hd _).2 ⟨d, vs, rfl, .inl upd_same, hp.up (S.new hd _).1.le⟩⟩) (he := he) (hpl := hpl)
theorem GE.asQ [Stable r] {xs : List α} (h : GE X σ F cs e (rL r) xs) : GE X σ F cs e (rQ r) xs := fun F1 cs1 H Q l u S k => h F1 cs1 H Q l u S fun v F2 H2 l2 S2 q => k v F2 H2 l2 S2 (.inl q)
theorem GE.asQt [Stable r] {xs : List α} (h : GE X σ F cs e (rTs r) xs) : GE X σ F cs e (rQ r) xs := fun F1 cs1 H Q l u S k => h F1 cs1 H Q l u S fun v F2 H2 l2 S2 q => k v F2 H2 l2 S2 (.inr q)
theorem ge_listL {pp : Pos} {xs : List α} [s : Stable r] (hg : Gl X "list") (hm : X.mg "list" = none) (ha : GE X σ F cs a (rL r) xs)
    (he : starEach [a] X.env = (false, eval a X.env) :: starEach [] X.env := by rfl) (hpl : (backTo pos (starEach [] X.env)).any (·.1) = false := by rfl) : GE X σ F cs (.Call (.Name "list" pp) [a] [] pos) (fz (rL r)) xs := ge_listQ hg hm (GE.asQ ha) he hpl
theorem ge_tupleL {pp : Pos} {xs : List α} [s : Stable r] (hg : Gl X "tuple") (hm : X.mg "tuple" = none) (ha : GE X σ F cs a (rL r) xs)
    (he : starEach [a] X.env = (false, eval a X.env) :: starEach [] X.env := by rfl) (hpl : (backTo pos (starEach [] X.env)).any (·.1) = false := by rfl) : GE X σ F cs (.Call (.Name "tuple" pp) [a] [] pos) (rTs r) xs :=
  ge_ty1 call_tuple_of hg hm boot_tupleT ha (fun F2 cs1 H2 v Q l u S ⟨w, vs, e, h, hp⟩ q => ⟨w, vs, by rw [e], .inl ⟨S.sqL h, fun d hd => q _ _ _ (S.new hd _).1.le (S.new hd _).2 ⟨d, vs, rfl, upd_same, hp.up (S.new hd _).1.le⟩⟩⟩) (he := he) (hpl := hpl)
/-- the sorted list of ints -/
def srt (ns : List Int) : List Int := ns.mergeSort (fun a b => decide (a ≤ b))
theorem srt_perm (ns : List Int) : (srt ns).Perm ns := List.mergeSort_perm ns _
theorem srt_sorted (ns : List Int) : (srt ns).Pairwise (· ≤ ·) := by
  have h := List.pairwise_mergeSort (le := fun a b : Int => decide (a ≤ b)) (fun a b c h1 h2 => by simp only [decide_eq_true_eq] at *; omega) (fun a b => by simp only [Bool.or_eq_true, decide_eq_true_eq]; omega) ns
  exact h.imp fun h => by simpa using h
theorem srt_eq {ns ms : List Int} (h : ms.Perm ns) (s : ms.Pairwise (· ≤ ·)) : ms = srt ns := PySem.W.ksm_same (h.trans (srt_perm ns).symm) s (srt_sorted ns)
theorem srt_mem {ns : List Int} {k : Int} : k ∈ srt ns ↔ k ∈ ns := (srt_perm ns).mem_iff
theorem srt_length (ns : List Int) : (srt ns).length = ns.length := (srt_perm ns).length_eq
theorem ge_sorted {pp : Pos} {ns : List Int} (hg : Gl X "sorted") (hm : X.mg "sorted" = none) (ha : GE X σ F cs a (rL rI) ns)
    (he : starEach [a] X.env = (false, eval a X.env) :: starEach [] X.env := by rfl) (hpl : (backTo pos (starEach [] X.env)).any (·.1) = false := by rfl) : GE X σ F cs (.Call (.Name "sorted" pp) [a] [] pos) (fz (rL rI)) (srt ns) :=
  ge_b1 cr_sortedI hg hm boot_sorted ha (fun F2 cs1 H2 v Q l u S ⟨w, vs, e, h, hp⟩ q => ⟨w, ns, by rw [e], by rw [← hp.ints]; exact S.sqL h, fun ns' d h1 h2 hd => by
    rw [srt_eq h1 h2]
    exact q _ _ _ (S.new hd _).1.le (S.new hd _).2 ⟨d, _, rfl, .inl upd_same, Els.ofInts _⟩⟩) (he := he) (hpl := hpl)

/-! ### subscripts -/
theorem atI_rel {R : V → α → Prop} {vs : List V} {xs : List α} (h : Paired R vs xs) {i : Int} {x : α} (e : atI xs i = some x) : ∃ v, atI vs i = some v ∧ R v x := by
  unfold atI at e ⊢
  rw [show vs.length = xs.length from Paired.length h]
  cases z : ixN xs.length i with
  | none => rw [z] at e; cases e
  | some n =>
    rw [z] at e
    obtain ⟨v, h1, h2⟩ := Paired.get1 h (show xs[n]? = some x from e)
    exact ⟨v, h1, h2⟩
theorem atI_nn {xs : List α} {i : Int} (h0 : 0 ≤ i) (h1 : i < xs.length) : atI xs i = xs[i.toNat]? := by
  unfold atI ixN
  rw [if_pos h0, if_pos h1]
  rfl
theorem atI_of {xs : List α} {n : Nat} {x : α} (h : xs[n]? = some x) : atI xs (n : Int) = some x := atI_nat h
theorem ge_ixL {xs : List α} (ha : GE X σ F cs a (rL r) xs) (hb : GE X σ F cs b rI i) (hx : atI xs i = some x) [s : Stable r] (hs : PlainIx b := by first | exact fun _ _ => rfl) : GE X σ F cs (.Subscript a b pos) (fz r) x := fun F1 cs1 H Q l1 u1 S q =>
  weB (pe_ix ix_list peW peW hs) (ha F1 cs1 H _ l1 u1 S fun v F2 H2 l2 S2 ⟨w, vs, e, h, hp⟩ => hb F2 cs1 H2 _ (l1.trans l2) u1 S2 fun v2 F3 H3 l3 S3 e2 => by
    obtain ⟨y, h1, h2⟩ := atI_rel hp hx
    exact ⟨w, vs, i, y, e, e2, S3.sqL (h.imp (l3.h _ _) id), h1, q y F3 H3 (l2.trans l3) S3 (s.up l3 (Sub.refl _) h2)⟩)
theorem ge_ixTs {xs : List α} (ha : GE X σ F cs a (rTs r) xs) (hb : GE X σ F cs b rI i) (hx : atI xs i = some x) [s : Stable r] (hs : PlainIx b := by first | exact fun _ _ => rfl) : GE X σ F cs (.Subscript a b pos) (fz r) x := fun F1 cs1 H Q l1 u1 S q =>
  weB (pe_ix ix_tup peW peW hs) (ha F1 cs1 H _ l1 u1 S fun v F2 H2 l2 S2 ⟨w, vs, e, h, hp⟩ => hb F2 cs1 H2 _ (l1.trans l2) u1 S2 fun v2 F3 H3 l3 S3 e2 => by
    obtain ⟨y, h1, h2⟩ := atI_rel hp hx
    exact ⟨w, vs, i, y, e, e2, S3.sqT (l3.h _ _ h), h1, q y F3 H3 (l2.trans l3) S3 (s.up l3 (Sub.refl _) h2)⟩)
theorem ge_ixQ {xs : List α} (ha : GE X σ F cs a (rQ r) xs) (hb : GE X σ F cs b rI i) (hx : atI xs i = some x) [s : Stable r] (hs : PlainIx b := by first | exact fun _ _ => rfl) : GE X σ F cs (.Subscript a b pos) (fz r) x := fun F1 cs1 H Q l1 u1 S q =>
  weB (pe_ix (IxR.or ix_list ix_tup) peW peW hs) (ha F1 cs1 H _ l1 u1 S fun v F2 H2 l2 S2 h0 => hb F2 cs1 H2 _ (l1.trans l2) u1 S2 fun v2 F3 H3 l3 S3 e2 => by
    rcases h0 with ⟨w, vs, e, h, hp⟩ | ⟨w, vs, e, h, hp⟩
    · obtain ⟨y, h1, h2⟩ := atI_rel hp hx
      exact .inl ⟨w, vs, i, y, e, e2, S3.sqL (h.imp (l3.h _ _) id), h1, q y F3 H3 (l2.trans l3) S3 (s.up l3 (Sub.refl _) h2)⟩
    · obtain ⟨y, h1, h2⟩ := atI_rel hp hx
      exact .inr ⟨w, vs, i, y, e, e2, S3.sqT (l3.h _ _ h), h1, q y F3 H3 (l2.trans l3) S3 (s.up l3 (Sub.refl _) h2)⟩)
/-- the places of a pair, a triple; the index is written -/
theorem ge_t20 {xy : α × β} (ha : GE X σ F cs a (rT2 r t) xy) [s : Stable r] {n : Nat} {p2 : Pos} : GE X σ F cs (.Subscript a (.Constant (.int 0) n p2) pos) (fz r) xy.1 := fun F1 cs1 H Q l1 u1 S q =>
  weB (pe_ix ix_tup peW pe_int (fun _ _ => rfl)) (ha F1 cs1 H _ l1 u1 S fun v F2 H2 l2 S2 ⟨w, u, z, e, h, h1, h2⟩ => ⟨w, _, 0, u, e, rfl, S2.sqT h, rfl, q u F2 H2 l2 S2 h1⟩)
theorem ge_t21 {xy : α × β} (ha : GE X σ F cs a (rT2 r t) xy) [s : Stable t] {n : Nat} {p2 : Pos} : GE X σ F cs (.Subscript a (.Constant (.int 1) n p2) pos) (fz t) xy.2 := fun F1 cs1 H Q l1 u1 S q =>
  weB (pe_ix ix_tup peW pe_int (fun _ _ => rfl)) (ha F1 cs1 H _ l1 u1 S fun v F2 H2 l2 S2 ⟨w, u, z, e, h, h1, h2⟩ => ⟨w, _, 1, z, e, rfl, S2.sqT h, rfl, q z F2 H2 l2 S2 h2⟩)

/-! ### slices -/
def cut {α : Type} (xs : List α) (lo hi : Option Int) : List α := (xs.drop (HT.sIx xs.length 0 lo)).take (HT.sIx xs.length xs.length hi - HT.sIx xs.length 0 lo)
theorem Paired.drop {α β : Type} {R : α → β → Prop} : ∀ {xs : List α} {ys : List β} (n : Nat), Paired R xs ys → Paired R (xs.drop n) (ys.drop n)
  | _, _, 0, h => h
  | _, _, _ + 1, .nil => .nil
  | _, _, n + 1, .cons _ t => Paired.drop n t
theorem Paired.take {α β : Type} {R : α → β → Prop} : ∀ {xs : List α} {ys : List β} (n : Nat), Paired R xs ys → Paired R (xs.take n) (ys.take n)
  | _, _, 0, _ => .nil
  | _, _, _ + 1, .nil => .nil
  | _, _, n + 1, .cons h t => .cons h (Paired.take n t)
theorem cut_rel {R : V → α → Prop} {vs : List V} {xs : List α} (h : Paired R vs xs) (lo hi : Option Int) : Paired R (cutV vs lo hi) (cut xs lo hi) := by
  unfold cutV cut
  rw [show vs.length = xs.length from Paired.length h]
  exact Paired.take _ (Paired.drop _ h)
theorem cut_hi (xs : List α) (n : Nat) : cut xs none (some (n : Int)) = xs.take n := by
  unfold cut
  rw [HT.sIx_none, HT.sIx_nat, List.drop_zero, Nat.sub_zero]
  rw [List.take_eq_take_iff]
  omega
theorem cut_lo (xs : List α) (n : Nat) : cut xs (some (n : Int)) none = xs.drop n := by
  unfold cut
  rw [HT.sIx_none, HT.sIx_nat]
  rcases Nat.le_total n xs.length with h | h
  · rw [Nat.min_eq_left h]
    exact List.take_of_length_le (by rw [List.length_drop]; exact Nat.le_refl _)
  · rw [Nat.min_eq_right h, List.drop_eq_nil_of_le (Nat.le_refl _), List.drop_eq_nil_of_le h]
    exact List.take_nil
theorem ge_slHi {p2 : Pos} {xs : List α} (ha : GE X σ F cs a (rL r) xs) (hb : GE X σ F cs b rI i) [s : Stable r] : GE X σ F cs (.Subscript a (.Slice none (some b) none p2) pos) (fz (rL r)) (cut xs none (some i)) := fun F1 cs1 H Q l1 u1 S q =>
  weB (pe_slice sl_list peW po_none (po_some peW)) (ha F1 cs1 H _ l1 u1 S fun v F2 H2 l2 S2 ⟨w, vs, e, h, hp⟩ => hb F2 cs1 H2 _ (l1.trans l2) u1 S2 fun v2 F3 H3 l3 S3 e2 => ⟨i, e2, w, vs, e, S3.sqL (h.imp (l3.h _ _) id), fun d hd =>
    q _ _ _ (l2.trans (l3.trans (S3.new hd _).1.le)) (S3.new hd _).2 ⟨d, _, rfl, .inl upd_same, Els.up (l3.trans (S3.new hd _).1.le) (cut_rel hp _ _)⟩⟩)
theorem ge_slLo {p2 : Pos} {xs : List α} (ha : GE X σ F cs a (rL r) xs) (hb : GE X σ F cs b rI i) [s : Stable r] : GE X σ F cs (.Subscript a (.Slice (some b) none none p2) pos) (fz (rL r)) (cut xs (some i) none) := fun F1 cs1 H Q l1 u1 S q =>
  weB (pe_slice sl_list peW (po_some peW) po_none) (ha F1 cs1 H _ l1 u1 S fun v F2 H2 l2 S2 ⟨w, vs, e, h, hp⟩ => hb F2 cs1 H2 _ (l1.trans l2) u1 S2 fun v2 F3 H3 l3 S3 e2 => ⟨i, e2, w, vs, e, S3.sqL (h.imp (l3.h _ _) id), fun d hd =>
    q _ _ _ (l2.trans (l3.trans (S3.new hd _).1.le)) (S3.new hd _).2 ⟨d, _, rfl, .inl upd_same, Els.up (l3.trans (S3.new hd _).1.le) (cut_rel hp _ _)⟩⟩)

/-! ### displays -/
theorem ga_nil : GAs X σ F cs [] r [] := fun F1 cs1 H Q l u S k => waB pa_nil (k _ F1 H (Le.refl _) S .nil)
theorem ga_cons {es : List Expr} {xs : List α} [s : Stable r] (h : GE X σ F cs e (fz r) x) (t : GAs X σ F cs es r xs) (hs : starEach (e :: es) X.env = (false, eval e X.env) :: starEach es X.env := by rfl) : GAs X σ F cs (e :: es) r (x :: xs) := fun F1 cs1 H Q l u S k =>
  waB (pa_cons peW paW hs) (h F1 cs1 H _ l u S fun v F2 H2 l2 S2 q => t F2 cs1 H2 _ (l.trans l2) u S2 fun vs F3 H3 l3 S3 q3 => k _ F3 H3 (l2.trans l3) S3 (.cons (s.up l3 (Sub.refl _) q) q3))
theorem ga_star {es : List Expr} {xs ys : List α} {p2 : Pos} [s : Stable r] (h : GE X σ F cs e (rQ r) xs) (t : GAs X σ F cs es r ys) (hs : starEach (.Starred e p2 :: es) X.env = (true, eval e X.env) :: starEach es X.env := by rfl) : GAs X σ F cs (.Starred e p2 :: es) r (xs ++ ys) := fun F1 cs1 H Q l u S k =>
  waB (StX.pa_star peW paW hs) (h F1 cs1 H _ l u S fun v F2 H2 l2 S2 q => by
    rcases q with ⟨w, vs, e, h, hp⟩ | ⟨w, vs, e, h, hp⟩
    · exact ⟨w, vs, e, .inr (S2.sqL h), t F2 cs1 H2 _ (l.trans l2) u S2 fun ws F3 H3 l3 S3 q3 => k _ F3 H3 (l2.trans l3) S3 (Paired.app (Els.up l3 hp) q3)⟩
    · exact ⟨w, vs, e, .inl (S2.sqT h), t F2 cs1 H2 _ (l.trans l2) u S2 fun ws F3 H3 l3 S3 q3 => k _ F3 H3 (l2.trans l3) S3 (Paired.app (Els.up l3 hp) q3)⟩)
theorem ge_lst {es : List Expr} {xs : List α} [s : Stable r] (h : GAs X σ F cs es r xs) (hl : xs.length ≤ 1000) : GE X σ F cs (.List es pos) (fz (rL r)) xs := fun F1 cs1 H Q l u S k =>
  weB (pe_lst paW) (h F1 cs1 H _ l u S fun vs F2 H2 l2 S2 q => ⟨by rw [Els.len q]; exact Nat.le_trans hl (by decide), fun d hd => k _ _ _ (l2.trans (S2.new hd _).1.le) (S2.new hd _).2 ⟨d, _, rfl, .inl upd_same, Els.up (S2.new hd _).1.le q⟩⟩)
theorem ge_nil [s : Stable r] : GE X σ F cs (.List [] pos) (fz (rL r)) [] := ge_lst ga_nil (Nat.zero_le _)
theorem ge_tups {es : List Expr} {xs : List α} {n : Nat} [s : Stable r] (h : GAs X σ F cs es r xs) (hl : xs.length ≤ 1000) : GE X σ F cs (.Tuple es n pos) (rTs r) xs := fun F1 cs1 H Q l u S k =>
  weB (pe_tup paW) (h F1 cs1 H _ l u S fun vs F2 H2 l2 S2 q => ⟨by rw [Els.len q]; exact Nat.le_trans hl (by decide), fun d hd => k _ _ _ (l2.trans (S2.new hd _).1.le) (S2.new hd _).2 ⟨d, _, rfl, upd_same, Els.up (S2.new hd _).1.le q⟩⟩)
theorem ge_tnil {n : Nat} [s : Stable r] : GE X σ F cs (.Tuple [] n pos) (rTs r) [] := ge_tups ga_nil (Nat.zero_le _)
theorem ge_tup2 {n : Nat} [s : Stable r] [z : Stable t] (h : GE X σ F cs a (fz r) x) (h2 : GE X σ F cs b (fz t) y) (hs : starEach [a, b] X.env = (false, eval a X.env) :: starEach [b] X.env := by rfl) (hs2 : starEach [b] X.env = (false, eval b X.env) :: starEach [] X.env := by rfl) : GE X σ F cs (.Tuple [a, b] n pos) (rT2 r t) (x, y) := fun F1 cs1 H Q l u S k =>
  weB (pe_tup (pa_cons peW (pa_cons peW pa_nil hs2) hs)) (h F1 cs1 H _ l u S fun v F2 H2 l2 S2 q => h2 F2 cs1 H2 _ (l.trans l2) u S2 fun v2 F3 H3 l3 S3 q2 =>
    ⟨by show 2 ≤ sizeLine; decide, fun d hd => k _ _ _ (l2.trans (l3.trans (S3.new hd _).1.le)) (S3.new hd _).2 ⟨d, v, v2, rfl, upd_same, s.up (l3.trans (S3.new hd _).1.le) (Sub.refl _) q, z.up (S3.new hd _).1.le (Sub.refl _) q2⟩⟩)
theorem ge_tup3 {n : Nat} {m : Rep γ} {w : γ} [s : Stable r] [z : Stable t] [y' : Stable m] (h : GE X σ F cs a (fz r) x) (h2 : GE X σ F cs b (fz t) y) (h3 : GE X σ F cs c (fz m) w) (hs : starEach [a, b, c] X.env = (false, eval a X.env) :: starEach [b, c] X.env := by rfl) (hs2 : starEach [b, c] X.env = (false, eval b X.env) :: starEach [c] X.env := by rfl) (hs3 : starEach [c] X.env = (false, eval c X.env) :: starEach [] X.env := by rfl) : GE X σ F cs (.Tuple [a, b, c] n pos) (rT3 r t m) (x, y, w) := fun F1 cs1 H Q l u S k =>
  weB (pe_tup (pa_cons peW (pa_cons peW (pa_cons peW pa_nil hs3) hs2) hs)) (h F1 cs1 H _ l u S fun v F2 H2 l2 S2 q => h2 F2 cs1 H2 _ (l.trans l2) u S2 fun v2 F3 H3 l3 S3 q2 => h3 F3 cs1 H3 _ (l.trans (l2.trans l3)) u S3 fun v3 F4 H4 l4 S4 q3 =>
    ⟨by show 3 ≤ sizeLine; decide, fun d hd => k _ _ _ (l2.trans (l3.trans (l4.trans (S4.new hd _).1.le))) (S4.new hd _).2 ⟨d, v, v2, v3, rfl, upd_same, s.up (l3.trans (l4.trans (S4.new hd _).1.le)) (Sub.refl _) q, z.up (l4.trans (S4.new hd _).1.le) (Sub.refl _) q2, y'.up (S4.new hd _).1.le (Sub.refl _) q3⟩⟩)
/-- (a, *bc) -/
theorem ge_tupS {n : Nat} {m : Rep γ} {yz : β × γ} {p2 : Pos} [s : Stable r] [z : Stable t] [y' : Stable m] (h : GE X σ F cs a (fz r) x) (h2 : GE X σ F cs b (rT2 t m) yz) (hs : starEach [a, .Starred b p2] X.env = (false, eval a X.env) :: starEach [.Starred b p2] X.env := by rfl) (hs2 : starEach [.Starred b p2] X.env = (true, eval b X.env) :: starEach [] X.env := by rfl) : GE X σ F cs (.Tuple [a, .Starred b p2] n pos) (rT3 r t m) (x, yz.1, yz.2) := fun F1 cs1 H Q l u S k =>
  weB (pe_tup (pa_cons peW (StX.pa_star peW pa_nil hs2) hs)) (h F1 cs1 H _ l u S fun v F2 H2 l2 S2 q => h2 F2 cs1 H2 _ (l.trans l2) u S2 fun v2 F3 H3 l3 S3 ⟨w, p1, p2, e, hw, q1, q2⟩ =>
    ⟨w, _, e, .inl (S3.sqT hw), by show 3 ≤ sizeLine; decide, fun d hd => k _ _ _ (l2.trans (l3.trans (S3.new hd _).1.le)) (S3.new hd _).2 ⟨d, v, p1, p2, rfl, upd_same, s.up (l3.trans (S3.new hd _).1.le) (Sub.refl _) q, z.up (S3.new hd _).1.le (Sub.refl _) q1, y'.up (S3.new hd _).1.le (Sub.refl _) q2⟩⟩)

/-! ### in -/
theorem inV_ints (k : Int) : ∀ ns : List Int, inV (.int k) (ns.map V.int) = decide (k ∈ ns)
  | [] => rfl
  | n :: r => by
    show (eqV (.int n) (.int k) || inV (.int k) (r.map V.int)) = _
    rw [inV_ints k r]
    have : eqV (.int n) (.int k) = decide (n = k) := by
      show (n == k) = _
      by_cases h : n = k
      · subst h; simp
      · simp [h]
    rw [this]
    by_cases h : n = k
    · subst h; simp
    · have h2 : ¬ k = n := fun z => h z.symm
      by_cases h3 : k ∈ r <;> simp [h, h2, h3]
theorem flat_ints : ∀ ns : List Int, (ns.map V.int).all flatV = true
  | [] => rfl
  | _ :: r => flat_ints r
theorem gc_inL {ns : List Int} (ha : GE X σ F cs a rI i) (hb : GE X σ F cs b (rQ rI) ns) : GC X σ F cs .In a b (decide (i ∈ ns)) :=
  gc_op op_in_seq ha hb fun F2 cs1 H2 v w Q u S h1 h2 q => by
    rcases h2 with ⟨d, vs, e, h, hp⟩ | ⟨d, vs, e, h, hp⟩
    · refine ⟨d, _, e, .inl (S.sqL h), by rw [show v = _ from h1]; rfl, by rw [hp.ints]; exact flat_ints ns, ?_⟩
      rw [show v = _ from h1, hp.ints, inV_ints]; exact q
    · refine ⟨d, _, e, .inr (S.sqT h), by rw [show v = _ from h1]; rfl, by rw [hp.ints]; exact flat_ints ns, ?_⟩
      rw [show v = _ from h1, hp.ints, inV_ints]; exact q
theorem gc_ninL {ns : List Int} (ha : GE X σ F cs a rI i) (hb : GE X σ F cs b (rQ rI) ns) : GC X σ F cs .NotIn a b (!decide (i ∈ ns)) :=
  gc_op op_notIn_seq ha hb fun F2 cs1 H2 v w Q u S h1 h2 q => by
    rcases h2 with ⟨d, vs, e, h, hp⟩ | ⟨d, vs, e, h, hp⟩
    · refine ⟨d, _, e, .inl (S.sqL h), by rw [show v = _ from h1]; rfl, by rw [hp.ints]; exact flat_ints ns, ?_⟩
      rw [show v = _ from h1, hp.ints, inV_ints]; exact q
    · refine ⟨d, _, e, .inr (S.sqT h), by rw [show v = _ from h1]; rfl, by rw [hp.ints]; exact flat_ints ns, ?_⟩
      rw [show v = _ from h1, hp.ints, inV_ints]; exact q

/-! ### dicts -/
def look (xs : List (Int × α)) (k : Int) : Option α := (xs.find? fun p => decide (p.1 = k)).map (·.2)
theorem look_nil (k : Int) : look ([] : List (Int × α)) k = none := rfl
theorem look_cons (p : Int × α) (xs : List (Int × α)) (k : Int) : look (p :: xs) k = if p.1 = k then some p.2 else look xs k := by
  unfold look
  rw [List.find?_cons]
  by_cases h : p.1 = k
  · rw [if_pos h, decide_eq_true h]; rfl
  · rw [if_neg h, decide_eq_false h]
/-- the value at a key, by the description -/
def RO {α : Type} (r : Rep α) (F : Hp) (o : Option V) (z : Option α) : Prop := match o, z with
  | some v, some x => r F [] v x
  | none, none => True
  | _, _ => False
theorem Ens.look {kvs : List (Key × V)} {xs : List (Int × α)} (h : Ens r F kvs xs) (k : Int) : RO r F (valV kvs (.inl k)) (look xs k) := by
  induction h with
  | nil => exact True.intro
  | @cons kv x kvs xs q t ih =>
    rw [look_cons]
    by_cases e : x.1 = k
    · rw [if_pos e, valV_pos (by rw [q.1, e])]
      exact q.2
    · rw [if_neg e, valV_neg (by rw [q.1]; exact fun z => e (Sum.inl.inj z))]
      exact ih
theorem RO.isSome {o : Option V} {z : Option α} (h : RO r F o z) : o.isSome = z.isSome := by
  cases o <;> cases z <;> first | rfl | exact h.elim
theorem Sta.dget {H : Hp} {d : Addr} {kvs : List (Key × V)} (S : Sta F cs H) (h : F d = some (.dK kvs) ∨ (d, .dK kvs) ∈ cs ∨ ∃ ob, (d, .frz ob (.dK kvs)) ∈ cs) (k : Int) : DGet H d (.int k) (valV kvs (.inl k)) := .inl ⟨kvs, .inl k, S.rdD h, rfl, rfl⟩
theorem rD_up {F F' : Hp} (l : Le F F') {d : Addr} {kvs : List (Key × V)} (h : F d = some (.dK kvs) ∨ (d, .dK kvs) ∈ cs ∨ ∃ ob, (d, .frz ob (.dK kvs)) ∈ cs) : F' d = some (.dK kvs) ∨ (d, .dK kvs) ∈ cs ∨ ∃ ob, (d, .frz ob (.dK kvs)) ∈ cs := h.imp (l.h _ _) id
theorem ge_dget {xs : List (Int × α)} (hu : X.A.units + 1 < cLine) (ha : GE X σ F cs a (rD r) xs) (hb : GE X σ F cs b rI i) (hx : look xs i = some x) [s : Stable r] (hs : NoSl b := by exact fun _ _ => rfl) : GE X σ F cs (.Subscript a b pos) (fz r) x := fun F1 cs1 H Q l1 u1 S q =>
  weB (pe_dget hu peW peW hs) (ha F1 cs1 H _ l1 u1 S fun v F2 H2 l2 S2 ⟨w, kvs, e, h, hp⟩ => hb F2 cs1 H2 _ (l1.trans l2) u1 S2 fun v2 F3 H3 l3 S3 e2 => by
    have z := (hp.up l3).look i
    rw [hx] at z
    cases o : valV kvs (.inl i) with
    | none => rw [o] at z; exact z.elim
    | some y =>
      rw [o] at z
      refine ⟨w, y, e, ?_, q y F3 H3 (l2.trans l3) S3 z⟩
      rw [show v2 = .int i from e2, ← o]
      exact S3.dget (rD_up l3 h) i)
theorem ge_get2 {xs : List (Int × α)} {ap : Pos} {d : α} (hu : X.A.units + 1 < cLine) (ha : GE X σ F cs a (rD r) xs) (hb : GE X σ F cs b rI i) (hc : GE X σ F cs c (fz r) d) [s : Stable r] (m : M2 X a "get" ap b c pos := by exact ⟨rfl, rfl, rfl, rfl⟩) : GE X σ F cs (.Call (.Attribute a "get" ap) [b, c] [] pos) (fz r) ((look xs i).getD d) := fun F1 cs1 H Q l1 u1 S q =>
  weB (pe_dget2 hu peW peW peW m) (ha F1 cs1 H _ l1 u1 S fun v F2 H2 l2 S2 ⟨w, kvs, e, h, hp⟩ => ⟨w, e, .inl ⟨kvs, S2.rdD h⟩, hb F2 cs1 H2 _ (l1.trans l2) u1 S2 fun v2 F3 H3 l3 S3 e2 => hc F3 cs1 H3 _ (l1.trans (l2.trans l3)) u1 S3 fun v3 F4 H4 l4 S4 e3 => by
    refine ⟨valV kvs (.inl i), ?_, q _ F4 H4 (l2.trans (l3.trans l4)) S4 ?_⟩
    · rw [show v2 = .int i from e2]
      exact S4.dget (rD_up (l3.trans l4) h) i
    · have z := (hp.up (l3.trans l4)).look i
      cases o : valV kvs (.inl i) with
      | none =>
        rw [o] at z
        cases o2 : look xs i with
        | none => exact e3
        | some _ => rw [o2] at z; exact z.elim
      | some y =>
        rw [o] at z
        cases o2 : look xs i with
        | none => rw [o2] at z; exact z.elim
        | some _ => rw [o2] at z; exact z⟩)
theorem gc_inD {xs : List (Int × α)} (hu : X.A.units + 1 < cLine) (ha : GE X σ F cs a rI i) (hb : GE X σ F cs b (rD r) xs) : GC X σ F cs .In a b (look xs i).isSome := fun F1 cs1 H Q l1 u1 S q =>
  wcB (pc_din hu peW peW) (ha F1 cs1 H _ l1 u1 S fun v F2 H2 l2 S2 e => hb F2 cs1 H2 _ (l1.trans l2) u1 S2 fun v2 F3 H3 l3 S3 ⟨w, kvs, e2, h, hp⟩ => ⟨w, valV kvs (.inl i), e2, by rw [show v = .int i from e]; exact S3.dget h i, by rw [(hp.look i).isSome]; exact q F3 H3 (l2.trans l3) S3⟩)
theorem gc_ninD {xs : List (Int × α)} (hu : X.A.units + 1 < cLine) (ha : GE X σ F cs a rI i) (hb : GE X σ F cs b (rD r) xs) : GC X σ F cs .NotIn a b (!(look xs i).isSome) := fun F1 cs1 H Q l1 u1 S q =>
  wcB (pc_dnotin hu peW peW) (ha F1 cs1 H _ l1 u1 S fun v F2 H2 l2 S2 e => hb F2 cs1 H2 _ (l1.trans l2) u1 S2 fun v2 F3 H3 l3 S3 ⟨w, kvs, e2, h, hp⟩ => ⟨w, valV kvs (.inl i), e2, by rw [show v = .int i from e]; exact S3.dget h i, by rw [(hp.look i).isSome]; exact q F3 H3 (l2.trans l3) S3⟩)

/-! ### equality of data -/
class Dat {α : Type} (r : Rep α) where
  d : α → PyData
  dep : Nat
  depth_le : ∀ x, (d x).depth ≤ dep
  lay : ∀ x, (d x).canLay0 = true
  inj : ∀ x y, PyData.eqv (d x) (d y) = true ↔ x = y
  is : ∀ {K : PySem.W.Frag} {F : Hp} {cs : Cs} {H : Hp} {v : V} {x : α}, Sta F cs H → r F cs v x → Dp K H v (d x)
instance : Dat rI := ⟨fun i => .int i, 0, fun _ => Nat.le_refl _, fun _ => rfl, fun x y => by show (x == y) = true ↔ _; simp, fun _ e => by rw [show _ = _ from e]; exact .int _⟩
instance : Dat rB := ⟨fun i => .bool i, 0, fun _ => Nat.le_refl _, fun _ => rfl, fun x y => by show (x == y) = true ↔ _; simp, fun _ e => by rw [show _ = _ from e]; exact .bl _⟩
theorem dp_all {K : PySem.W.Frag} {H : Hp} {r : Rep α} [z : Dat r] (S : Sta F cs H) : ∀ {vs : List V} {xs : List α}, Els r F vs xs → DpAll K H vs (xs.map z.d)
  | _, _, .nil => .nil
  | _, _, .cons h t => .cons (z.is (S.sub (List.nil_sublist _)) h) (dp_all S t)
theorem lay_all {r : Rep α} [z : Dat r] : ∀ xs : List α, PyData.canLayAll0 (xs.map z.d) = true
  | [] => rfl
  | x :: t => by
    show (PyData.canLay0 (z.d x) && PyData.canLayAll0 (t.map z.d)) = true
    rw [z.lay x, lay_all t]; rfl
theorem depth_all {r : Rep α} [z : Dat r] : ∀ xs : List α, PyData.depthAll (xs.map z.d) ≤ z.dep
  | [] => Nat.zero_le _
  | x :: t => by
    show max (PyData.depth (z.d x)) (PyData.depthAll (t.map z.d)) ≤ _
    exact Nat.max_le.mpr ⟨z.depth_le x, depth_all t⟩
theorem eqv_all {r : Rep α} [z : Dat r] : ∀ xs ys : List α, PyData.eqvAll (xs.map z.d) (ys.map z.d) = true ↔ xs = ys
  | [], [] => by simp [PyData.eqvAll]
  | [], y :: ys => by simp [PyData.eqvAll]
  | x :: xs, [] => by simp [PyData.eqvAll]
  | x :: xs, y :: ys => by
    show (PyData.eqv (z.d x) (z.d y) && PyData.eqvAll (xs.map z.d) (ys.map z.d)) = true ↔ _
    rw [Bool.and_eq_true, z.inj, eqv_all xs ys, List.cons.injEq]
instance {r : Rep α} [z : Dat r] : Dat (rL r) := ⟨fun xs => .list (xs.map z.d), z.dep + 1, fun xs => Nat.succ_le_succ (depth_all xs), fun xs => lay_all xs, fun xs ys => eqv_all xs ys, fun {K F cs H v xs} S ⟨w, vs, e, h, hp⟩ => by
  rw [e]; exact .lst (S.sqL h) (dp_all S hp)⟩
instance {r : Rep α} [z : Dat r] : Dat (rTs r) := ⟨fun xs => .tuple (xs.map z.d), z.dep + 1, fun xs => Nat.succ_le_succ (depth_all xs), fun xs => lay_all xs, fun xs ys => eqv_all xs ys, fun {K F cs H v xs} S ⟨w, vs, e, h, hp⟩ => by
  rw [e]; exact .tup (S.sqT h) (dp_all S hp)⟩
instance {r : Rep α} {t : Rep β} [z : Dat r] [m : Dat t] : Dat (rT2 r t) := ⟨fun p => .tuple [z.d p.1, m.d p.2], max z.dep m.dep + 1, fun p => by
    show max (z.d p.1).depth (max (m.d p.2).depth 0) + 1 ≤ _
    have := z.depth_le p.1
    have := m.depth_le p.2
    omega, fun p => by
    show (PyData.canLay0 (z.d p.1) && (PyData.canLay0 (m.d p.2) && true)) = true
    rw [z.lay, m.lay]; rfl, fun p q => by
    show (PyData.eqv (z.d p.1) (z.d q.1) && (PyData.eqv (m.d p.2) (m.d q.2) && true)) = true ↔ _
    rw [Bool.and_true, Bool.and_eq_true, z.inj, m.inj, Prod.ext_iff], fun {K F cs H v xs} S ⟨w, p1, p2, e, h, h1, h2⟩ => by
    have S0 := S.sub (List.nil_sublist _)
    rw [e]; exact .tup (S.sqT h) (.cons (z.is S0 h1) (.cons (m.is S0 h2) .nil))⟩
instance {r : Rep α} [z : Dat r] : Dat (fz r) := ⟨z.d, z.dep, z.depth_le, z.lay, z.inj, fun S h => z.is (S.sub (List.nil_sublist _)) h⟩
theorem gc_eqD [Stable r] [z : Dat r] [DecidableEq α] {x y : α} (hu : X.A.units + 64 < cLine) (hd : z.dep ≤ 64) (ha : GE X σ F cs a r x) (hb : GE X σ F cs b r y) : GC X σ F cs .Eq a b (decide (x = y)) :=
  gc_op (op_eqD hu) ha hb fun F2 cs1 H2 v w Q u S h1 h2 q => ⟨z.d x, z.d y, z.is S h1, z.is S h2, by unfold SeqAt.shaped; rw [z.lay, decide_eq_true (Nat.le_trans (z.depth_le x) hd)]; rfl, by unfold SeqAt.shaped; rw [z.lay, decide_eq_true (Nat.le_trans (z.depth_le y) hd)]; rfl, by
    have : PyData.eqv (z.d x) (z.d y) = decide (x = y) := by
      rw [Bool.eq_iff_iff, z.inj, decide_eq_true_iff]
    rw [this]; exact q⟩
theorem gc_neD [Stable r] [z : Dat r] [DecidableEq α] {x y : α} (hu : X.A.units + 64 < cLine) (hd : z.dep ≤ 64) (ha : GE X σ F cs a r x) (hb : GE X σ F cs b r y) : GC X σ F cs .NotEq a b (!decide (x = y)) :=
  gc_op (op_neD hu) ha hb fun F2 cs1 H2 v w Q u S h1 h2 q => ⟨z.d x, z.d y, z.is S h1, z.is S h2, by unfold SeqAt.shaped; rw [z.lay, decide_eq_true (Nat.le_trans (z.depth_le x) hd)]; rfl, by unfold SeqAt.shaped; rw [z.lay, decide_eq_true (Nat.le_trans (z.depth_le y) hd)]; rfl, by
    have : PyData.eqv (z.d x) (z.d y) = decide (x = y) := by
      rw [Bool.eq_iff_iff, z.inj, decide_eq_true_iff]
    rw [this]; exact q⟩
end
end DL

-- part DLc
/-! DL, third part: targets, walks, comprehensions. -/
namespace DL
open PySem PySem.Spec PyProof.Rows L2

/-! ### slots wiped -/
theorem wipe_get (σ : Sl) (j : Nat) : ∀ vs : List Nat, (wipe σ vs)[j]? = if j ∈ vs then σ[j]?.map (fun _ => (none : Option V)) else σ[j]?
  | [] => by simp [wipe]
  | v :: vs => by
    unfold wipe
    rw [List.getElem?_set, wipe_length]
    by_cases e : v = j
    · subst e
      rw [if_pos rfl, if_pos List.mem_cons_self]
      by_cases h : v < σ.length
      · rw [if_pos h, List.getElem?_eq_getElem h]; rfl
      · rw [if_neg h, List.getElem?_eq_none (by omega)]; rfl
    · rw [if_neg e, wipe_get σ j vs]
      by_cases h : j ∈ vs
      · rw [if_pos h, if_pos (List.mem_cons_of_mem _ h)]
      · rw [if_neg h, if_neg fun z => (List.mem_cons.mp z).elim (fun q => e q.symm) h]
theorem wipe_set {σ : Sl} {vs : List Nat} {i : Nat} {y : Option V} (h : i ∈ vs) : wipe (σ.set i y) vs = wipe σ vs := by
  apply List.ext_getElem?
  intro j
  rw [wipe_get, wipe_get]
  by_cases e : i = j
  · subst e
    rw [if_pos h, if_pos h, List.getElem?_set]
    by_cases q : i < σ.length
    · simp [q]
    · simp [q]
  · rw [List.getElem?_set_ne e]
theorem wipe_wipe (σ : Sl) (vs : List Nat) : wipe (wipe σ vs) vs = wipe σ vs := by
  apply List.ext_getElem?
  intro j
  rw [wipe_get, wipe_get]
  by_cases h : j ∈ vs
  · rw [if_pos h, if_pos h]
    cases σ[j]? <;> rfl
  · rw [if_neg h, if_neg h]

/-! ### targets -/
structure GB {α : Type} (X : Cx) (tg : Expr) (r : Rep α) (B : Hp → V → α → Sl → Sl → Prop) (is : List Nat) : Prop where
  run : ∀ (F : Hp) (cs : Cs) (H : Hp) (v : V) (x : α) (σ : Sl) (Q : Sl → Hp → Prop), Sta F cs H → r F [] v x → (∀ σ', B F v x σ σ' → Q σ' H) → WG X tg v σ H Q
  own : ∀ (F : Hp) (v : V) (x : α) (σ σ' : Sl) (vs : List Nat), (∀ i ∈ is, i ∈ vs) → B F v x σ σ' → wipe σ' vs = wipe σ vs
def bN {α : Type} (r : Rep α) (i : Nat) : Hp → V → α → Sl → Sl → Prop := fun F v x σ σ' => Is r F [] v x ∧ σ' = σ.set i (some v)
def bI (i : Nat) : Hp → V → Int → Sl → Sl → Prop := fun _ _ x σ σ' => σ' = σ.set i (some (.int x))
def bT2 {α β : Type} (B1 : Hp → V → α → Sl → Sl → Prop) (B2 : Hp → V → β → Sl → Sl → Prop) : Hp → V → α × β → Sl → Sl → Prop := fun F _ x σ σ' => ∃ u w σ1, B1 F u x.1 σ σ1 ∧ B2 F w x.2 σ1 σ'
def bT3 {α β γ : Type} (B1 : Hp → V → α → Sl → Sl → Prop) (B2 : Hp → V → β → Sl → Sl → Prop) (B3 : Hp → V → γ → Sl → Sl → Prop) : Hp → V → α × β × γ → Sl → Sl → Prop := fun F _ x σ σ' => ∃ u w z σ1 σ2, B1 F u x.1 σ σ1 ∧ B2 F w x.2.1 σ1 σ2 ∧ B3 F z x.2.2 σ2 σ'
section
variable {X : Cx} {pos : Pos} {α β γ : Type} {r : Rep α} {t : Rep β} {m : Rep γ} {a b c : Expr} {B1 : Hp → V → α → Sl → Sl → Prop} {B2 : Hp → V → β → Sl → Sl → Prop} {B3 : Hp → V → γ → Sl → Sl → Prop} {is js ks : List Nat}
theorem gb_n (r : Rep α) {i : Nat} {z : Str} (hN : X.N.Nodup) (hi : X.N[i]? = some z) (hx : Loc X.env.scope z) (hf : X.fn z = true ∨ X.env.scope.names.lookup z = some .local := by first | exact .inl rfl | exact .inr rfl | assumption) : GB X (.Name z pos) r (bN r i) [i] :=
  ⟨fun F cs H v x σ Q S h k => wgB (pg_name hN hi hx hf) (k _ ⟨⟨h⟩, rfl⟩), fun F v x σ σ' vs hs ⟨_, e⟩ => by rw [e]; exact wipe_set (hs i (List.mem_singleton.mpr rfl))⟩
theorem gb_i {i : Nat} {z : Str} (hN : X.N.Nodup) (hi : X.N[i]? = some z) (hx : Loc X.env.scope z) (hf : X.fn z = true ∨ X.env.scope.names.lookup z = some .local := by first | exact .inl rfl | exact .inr rfl | assumption) : GB X (.Name z pos) rI (bI i) [i] :=
  ⟨fun F cs H v x σ Q S h k => wgB (pg_name hN hi hx hf) (k _ (by rw [show v = _ from h]; rfl)), fun F v x σ σ' vs hs e => by rw [show σ' = _ from e]; exact wipe_set (hs i (List.mem_singleton.mpr rfl))⟩
theorem gb_t2 {n : Nat} (hc : X.calm = true) (h1 : GB X a r B1 is) (h2 : GB X b t B2 js)
    (hs1 : (assignEach [a, b] X.env).map (·.2) = assign a X.env :: (assignEach [b] X.env).map (·.2) := by rfl) (hs2 : (assignEach [b] X.env).map (·.2) = assign b X.env :: (assignEach [] X.env).map (·.2) := by rfl)
    (hn : (assignEach [a, b] X.env).length = 2 := by rfl) (hst : (assignEach [a, b] X.env).findIdx? (·.1) = none := by rfl) : GB X (.Tuple [a, b] n pos) (rT2 r t) (bT2 B1 B2) (is ++ js) :=
  ⟨fun F cs H v x σ Q S ⟨w, u1, u2, e, hw, q1, q2⟩ k => wgB (pg_tup hc (pgs_cons pgW (pgs_cons pgW pgs_nil hs2) hs1) hn hst) ⟨w, _, e, S.sqT hw, rfl, u1, _, rfl, h1.run F cs H u1 _ σ _ S q1 fun σ1 b1 => ⟨u2, _, rfl, h2.run F cs H u2 _ σ1 _ S q2 fun σ2 b2 => ⟨rfl, k σ2 ⟨u1, u2, σ1, b1, b2⟩⟩⟩⟩,
   fun F v x σ σ' vs hs ⟨u, w, σ1, b1, b2⟩ => (h2.own F w _ _ _ vs (fun i hi => hs i (List.mem_append_right _ hi)) b2).trans (h1.own F u _ _ _ vs (fun i hi => hs i (List.mem_append_left _ hi)) b1)⟩
theorem gb_t3 {n : Nat} (hc : X.calm = true) (h1 : GB X a r B1 is) (h2 : GB X b t B2 js) (h3 : GB X c m B3 ks)
    (hs1 : (assignEach [a, b, c] X.env).map (·.2) = assign a X.env :: (assignEach [b, c] X.env).map (·.2) := by rfl) (hs2 : (assignEach [b, c] X.env).map (·.2) = assign b X.env :: (assignEach [c] X.env).map (·.2) := by rfl) (hs3 : (assignEach [c] X.env).map (·.2) = assign c X.env :: (assignEach [] X.env).map (·.2) := by rfl)
    (hn : (assignEach [a, b, c] X.env).length = 3 := by rfl) (hst : (assignEach [a, b, c] X.env).findIdx? (·.1) = none := by rfl) : GB X (.Tuple [a, b, c] n pos) (rT3 r t m) (bT3 B1 B2 B3) (is ++ (js ++ ks)) :=
  ⟨fun F cs H v x σ Q S ⟨w, u1, u2, u3, e, hw, q1, q2, q3⟩ k => wgB (pg_tup hc (pgs_cons pgW (pgs_cons pgW (pgs_cons pgW pgs_nil hs3) hs2) hs1) hn hst) ⟨w, _, e, S.sqT hw, rfl, u1, _, rfl, h1.run F cs H u1 _ σ _ S q1 fun σ1 b1 => ⟨u2, _, rfl, h2.run F cs H u2 _ σ1 _ S q2 fun σ2 b2 =>
    ⟨u3, _, rfl, h3.run F cs H u3 _ σ2 _ S q3 fun σ3 b3 => ⟨rfl, k σ3 ⟨u1, u2, u3, σ1, σ2, b1, b2, b3⟩⟩⟩⟩⟩,
   fun F v x σ σ' vs hs ⟨u, w, z, σ1, σ2, b1, b2, b3⟩ => (h3.own F z _ _ _ vs (fun i hi => hs i (List.mem_append_right _ (List.mem_append_right _ hi))) b3).trans ((h2.own F w _ _ _ vs (fun i hi => hs i (List.mem_append_right _ (List.mem_append_left _ hi))) b2).trans (h1.own F u _ _ _ vs (fun i hi => hs i (List.mem_append_left _ hi)) b1))⟩
end

/-! ### what is walked -/
def Walks {α : Type} (J : It) (F : Hp) (c : Cs) (r : Rep α) (xs : List α) : Prop :=
  ∀ (F' : Hp) (cs' : Cs) (H' : Hp), Le F F' → Sub c cs' → Sta F' cs' H' → ∀ i : Nat,
    (∀ x, xs[i]? = some x → J.go i H' ∧ ∀ v H'', J.yld i H' v H'' → ∃ F'', Le F' F'' ∧ Sta F'' cs' H'' ∧ r F'' [] v x) ∧ (xs.length ≤ i → J.stop i H')
def frzs (cs : Cs) : Cs := cs.filter fun p => match p.2 with | .frz _ _ => true | _ => false
theorem mem_frzs {cs : Cs} {d : Addr} {o : Obj} {u : HO} (h : (d, .frz o u) ∈ cs) : (d, .frz o u) ∈ frzs cs := List.mem_filter.mpr ⟨h, rfl⟩
theorem frzs_sub {cs : Cs} : Sub (frzs cs) cs := ⟨fun _ h => (List.mem_filter.mp h).1⟩
/-- c0: the cells that the walk itself reads -/
def GIt {α : Type} (X : Cx) (σ : Sl) (F : Hp) (cs c0 : Cs) (tg iter : Expr) (r : Rep α) (xs : List α) : Prop :=
  ∀ (F1 : Hp) (cs1 : Cs) (H : Hp) (R : It → Hp → Prop), Le F F1 → Sub cs cs1 → Sta F1 cs1 H →
    (∀ (J : It) (pre c1 : Cs) (F2 H2 : Hp), Le F1 F2 → Sta F2 (cs1 ++ pre) H2 → Sub c1 ((c0 ++ frzs cs1) ++ pre) → Walks J F2 c1 r xs → R J H2) → WI X tg iter σ H R
theorem Sub.app {p a b : Cs} (h : Sub a b) : Sub (p ++ a) (p ++ b) := ⟨fun q hq => (List.mem_append.mp hq).elim (List.mem_append_left _) fun z => List.mem_append_right _ (h.h q z)⟩
theorem Sub.right {p a b : Cs} (h : Sub a b) : Sub a (p ++ b) := ⟨fun q hq => List.mem_append_right _ (h.h q hq)⟩
theorem Sub.ofApp {p a b : Cs} (h : Sub (p ++ a) b) : Sub a b := ⟨fun q hq => h.h q (List.mem_append_right _ hq)⟩
section
variable {X : Cx} {σ : Sl} {F F0 : Hp} {cs cs0 c0 : Cs} {tg e a b c : Expr} {pos : Pos} {α β γ : Type} {r : Rep α} {t : Rep β} {x : α} {y : β} {i j : Int}
theorem paired_none {R : V → α → Prop} {vs : List V} {xs : List α} (h : Paired R vs xs) {n : Nat} (q : xs.length ≤ n) : vs.length ≤ n := by rw [show vs.length = xs.length from Paired.length h]; exact q
theorem sq_inj {a : Addr} {vs ws : List V} {H : Hp} {K : PySem.W.Frag} (h : H a = some (.lst vs) ∨ ∃ o, H a = some (.frz o (.lst vs))) (h2 : Rd H a (.lst ws)) : ws = vs := by
  rcases h with h | ⟨o, h⟩ <;> rcases h2 with z | ⟨o2, z⟩ <;> rw [h] at z <;> cases z <;> rfl
/-- a list that lies frozen -/
theorem gi_list [s : Stable r] {xs : List α} (ha : GE X σ F cs e (fz (rL r)) xs) : GIt X σ F cs [] tg e r xs := fun F1 cs1 H R l u S k =>
  wiB (pi_list peW) (ha F1 cs1 H _ l u S fun v F2 H2 l2 S2 ⟨w, vs, ev, h, hp⟩ => ⟨w, ev, ⟨vs, S2.sqL (h.imp id (fun z => nomatch z))⟩, k _ [] [] F2 H2 l2 (by rw [List.append_nil]; exact S2) (Sub.nil _) fun F' cs' H' l3 u3 S3 n => by
    have hr : Rd H' w (.lst vs) := .inl (S3.rd (h.imp (l3.h _ _) (fun z => nomatch z)))
    refine ⟨fun x hx => ?_, fun hn => ⟨vs, .inl hr, paired_none hp hn⟩⟩
    obtain ⟨y, h1, h2⟩ := Paired.get1 hp hx
    exact ⟨⟨vs, y, .inl hr, h1⟩, fun v H'' ⟨eH, hv⟩ => ⟨F', Le.refl _, by rw [eH]; exact S3, by
      have := hv vs (.inl hr)
      rw [h1] at this
      rw [← Option.some.inj this]
      exact s.up l3 (Sub.refl _) h2⟩⟩⟩)
/-- the list in a cell -/
theorem gi_cell [s : Stable r] {xs : List α} {n : Nat} {z : Str} {w : Addr} {vs : List V} (hN : X.N[n]? = some z) (hσ : σ[n]? = some (some (.ref w))) (hm : (w, .lst vs) ∈ cs) (hp : Els r F0 vs xs) [l0 : Le F0 F] (hv : Vis X.env.scope z := by first | exact Or.inl rfl | exact Or.inr (Or.inl rfl) | exact Or.inr (Or.inr rfl))
    (hd : (z == ("__debug__" : Str)) = false := by decide) (hcd : (z == ("__classdict__" : Str)) = false := by decide) : GIt X σ F cs [(w, .lst vs)] tg (.Name z pos) r xs := fun F1 cs1 H R l u S k =>
  wiB (pi_list (pe_var hN hv hd hcd)) ⟨_, hσ, w, rfl, ⟨vs, S.sqL (.inr (u.h _ hm))⟩, k _ [] [(w, .lst vs)] F1 H (Le.refl _) (by rw [List.append_nil]; exact S) ⟨fun p hp => List.mem_append_left _ (List.mem_append_left _ hp)⟩ fun F' cs' H' l3 u3 S3 n => by
    have hr : Rd H' w (.lst vs) := .inl (S3.rd (F := F') (.inr (u3.h _ List.mem_cons_self)))
    refine ⟨fun x hx => ?_, fun hn => ⟨vs, .inl hr, paired_none hp hn⟩⟩
    obtain ⟨y, h1, h2⟩ := Paired.get1 hp hx
    exact ⟨⟨vs, y, .inl hr, h1⟩, fun v H'' ⟨eH, hv⟩ => ⟨F', Le.refl _, by rw [eH]; exact S3, by
      have := hv vs (.inl hr)
      rw [h1] at this
      rw [← Option.some.inj this]
      exact s.up (l0.trans (l.trans l3)) (Sub.refl _) h2⟩⟩⟩
theorem gi_tup [s : Stable r] {xs : List α} (ha : GE X σ F cs e (rTs r) xs) : GIt X σ F cs [] tg e r xs := fun F1 cs1 H R l u S k =>
  wiB (pi_tup peW) (ha F1 cs1 H _ l u S fun v F2 H2 l2 S2 ⟨w, vs, ev, h, hp⟩ => ⟨w, ev, ⟨vs, S2.sqT h⟩, k _ [] [] F2 H2 l2 (by rw [List.append_nil]; exact S2) (Sub.nil _) fun F' cs' H' l3 u3 S3 n => by
    have hr := S3.tup (l3.h _ _ h)
    refine ⟨fun x hx => ?_, fun hn => ⟨vs, .inl (.inl hr), paired_none hp hn⟩⟩
    obtain ⟨y, h1, h2⟩ := Paired.get1 hp hx
    exact ⟨⟨vs, y, .inl (.inl hr), h1⟩, fun v H'' ⟨eH, hv⟩ => ⟨F', Le.refl _, by rw [eH]; exact S3, by
      have := hv vs (.inl (.inl hr))
      rw [h1] at this
      rw [← Option.some.inj this]
      exact s.up l3 (Sub.refl _) h2⟩⟩⟩)
/-- the list or tuple in a slot, as it is known -/
theorem gi_v [s : Stable r] {xs : List α} {n : Nat} {z : Str} {v : V} (hN : X.N[n]? = some z) (hσ : σ[n]? = some (some v)) (h : Is (rQ r) F0 cs0 v xs) [l0 : Le F0 F] [u0 : Sub cs0 cs] (hv : Vis X.env.scope z := by first | exact Or.inl rfl | exact Or.inr (Or.inl rfl) | exact Or.inr (Or.inr rfl))
    (hd : (z == ("__debug__" : Str)) = false := by decide) (hcd : (z == ("__classdict__" : Str)) = false := by decide) : GIt X σ F cs cs0 tg (.Name z pos) r xs := fun F1 cs1 H R l u S k => by
  rcases h.h with ⟨w, vs, ev, h, hp⟩ | ⟨w, vs, ev, h, hp⟩
  · refine wiB (pi_list (pe_var hN hv hd hcd)) ⟨v, hσ, w, ev, ⟨vs, S.sqL (h.imp ((l0.trans l).h _ _) (fun q => u.h _ (u0.h _ q)))⟩, k _ [] (cs0.filter fun p => p.1 == w) F1 H (Le.refl _) (by rw [List.append_nil]; exact S) ⟨fun p hp => List.mem_append_left _ (List.mem_append_left _ (List.mem_filter.mp hp).1)⟩ fun F' cs' H' l3 u3 S3 n => ?_⟩
    have hr : Rd H' w (.lst vs) := .inl (S3.rd (h.imp ((l0.trans (l.trans l3)).h _ _) (fun q => u3.h _ (List.mem_filter.mpr ⟨q, by simp⟩))))
    refine ⟨fun x hx => ?_, fun hn => ⟨vs, .inl hr, paired_none hp hn⟩⟩
    obtain ⟨y, h1, h2⟩ := Paired.get1 hp hx
    exact ⟨⟨vs, y, .inl hr, h1⟩, fun v H'' ⟨eH, hv⟩ => ⟨F', Le.refl _, by rw [eH]; exact S3, by
      have := hv vs (.inl hr)
      rw [h1] at this
      rw [← Option.some.inj this]
      exact s.up (l0.trans (l.trans l3)) (Sub.refl _) h2⟩⟩
  · refine wiB (pi_tup (pe_var hN hv hd hcd)) ⟨v, hσ, w, ev, ⟨vs, S.sqT ((l0.trans l).h _ _ h)⟩, k _ [] [] F1 H (Le.refl _) (by rw [List.append_nil]; exact S) (Sub.nil _) fun F' cs' H' l3 u3 S3 n => ?_⟩
    have hr := S3.tup ((l0.trans (l.trans l3)).h _ _ h)
    refine ⟨fun x hx => ?_, fun hn => ⟨vs, .inl (.inl hr), paired_none hp hn⟩⟩
    obtain ⟨y, h1, h2⟩ := Paired.get1 hp hx
    exact ⟨⟨vs, y, .inl (.inl hr), h1⟩, fun v H'' ⟨eH, hv⟩ => ⟨F', Le.refl _, by rw [eH]; exact S3, by
      have := hv vs (.inl (.inl hr))
      rw [h1] at this
      rw [← Option.some.inj this]
      exact s.up (l0.trans (l.trans l3)) (Sub.refl _) h2⟩⟩
theorem Is.asQ {xs : List α} {v : V} (h : Is (rL r) F cs v xs) : Is (rQ r) F cs v xs := ⟨.inl h.h⟩
theorem Is.asQt {xs : List α} {v : V} (h : Is (rTs r) F cs v xs) : Is (rQ r) F cs v xs := ⟨.inr h.h⟩
/-- lo, lo + 1, .. -/
def rng (lo : Int) (n : Nat) : List Int := (List.range n).map fun (k : Nat) => lo + (k : Int)
theorem rng_get {lo : Int} {n k : Nat} {x : Int} (h : (rng lo n)[k]? = some x) : k < n ∧ x = lo + (k : Int) := by
  unfold rng at h
  rw [List.getElem?_map] at h
  by_cases q : k < n
  · rw [List.getElem?_range q] at h
    exact ⟨q, (Option.some.inj h).symm⟩
  · rw [List.getElem?_eq_none (by simpa using q)] at h; cases h
theorem rng_length (lo : Int) (n : Nat) : (rng lo n).length = n := by unfold rng; simp
theorem mem_rng {lo x : Int} {n : Nat} : x ∈ rng lo n ↔ lo ≤ x ∧ x < lo + n := by
  unfold rng
  rw [List.mem_map]
  constructor
  · rintro ⟨k, hk, rfl⟩
    have := List.mem_range.mp hk
    omega
  · rintro ⟨h1, h2⟩
    exact ⟨(x - lo).toNat, List.mem_range.mpr (by omega), by omega⟩
theorem walks_rng {F : Hp} {lo : Int} {n : Nat} : Walks (Itr lo n) F [] rI (rng lo n) := fun F' cs' H' l3 u3 S3 k => by
  refine ⟨fun x hx => ?_, fun hn => by rw [rng_length] at hn; exact hn⟩
  obtain ⟨h1, h2⟩ := rng_get hx
  exact ⟨h1, fun v H'' ⟨eH, hv⟩ => ⟨F', Le.refl _, by rw [eH]; exact S3, by rw [h2]; exact hv⟩⟩
theorem gi_rng1 {pp : Pos} (hg : Gl X "range") (hm : X.mg "range" = none) (ha : GE X σ F cs a rI j) (h1 : -(2 ^ 62) ≤ j) (h2 : j < 2 ^ 62) (hs : starEach [a] X.env = [(false, eval a X.env)] := by rfl) : GIt X σ F cs [] tg (.Call (.Name "range" pp) [a] [] pos) rI (rng 0 j.toNat) := fun F1 cs1 H R l u S k =>
  wiB (pi_range1 hg hm (pa_cons peW pa_nil hs) hs) (ha F1 cs1 H _ l u S fun v F2 H2 l2 S2 e => ⟨j, by rw [show v = _ from e], h1, h2, k _ [] [] F2 H2 l2 (by rw [List.append_nil]; exact S2) (Sub.nil _) walks_rng⟩)
theorem gi_rng2 {pp : Pos} (hg : Gl X "range") (hm : X.mg "range" = none) (ha : GE X σ F cs a rI i) (hb : GE X σ F cs b rI j) (h1 : -(2 ^ 62) ≤ i ∧ i < 2 ^ 62 ∧ -(2 ^ 62) ≤ j ∧ j < 2 ^ 62) (hs : starEach [a, b] X.env = [(false, eval a X.env), (false, eval b X.env)] := by rfl) (hs2 : starEach [b] X.env = [(false, eval b X.env)] := by rfl) :
    GIt X σ F cs [] tg (.Call (.Name "range" pp) [a, b] [] pos) rI (rng i (j - i).toNat) := fun F1 cs1 H R l u S k =>
  wiB (pi_range2 hg hm (pa_cons peW (pa_cons peW pa_nil hs2) (by rw [hs2]; exact hs)) hs hs2) (ha F1 cs1 H _ l u S fun v F2 H2 l2 S2 e => hb F2 cs1 H2 _ (l.trans l2) u S2 fun v2 F3 H3 l3 S3 e2 => ⟨i, j, by rw [show v = _ from e, show v2 = _ from e2], h1, k _ [] [] F3 H3 (l2.trans l3) (by rw [List.append_nil]; exact S3) (Sub.nil _) walks_rng⟩)
/-- enumerate of a frozen list -/
def enumI {α : Type} (xs : List α) : List (Int × α) := (rng 0 xs.length).zip xs
theorem enumI_get {xs : List α} {k : Nat} {p : Int × α} (h : (enumI xs)[k]? = some p) : p.1 = (k : Int) ∧ xs[k]? = some p.2 := by
  unfold enumI at h
  rw [List.getElem?_zip_eq_some] at h
  have := (rng_get h.1).2
  exact ⟨by omega, h.2⟩
theorem enumI_length (xs : List α) : (enumI xs).length = xs.length := by unfold enumI; rw [List.length_zip, rng_length, Nat.min_self]
theorem gi_enum [s : Stable r] {xs : List α} {pp : Pos} {elts : List Expr} {kk : Nat} {tpos : Pos} (hg : Gl X "enumerate") (hm : X.mg "enumerate" = none) (ha : GE X σ F cs a (fz (rL r)) xs) (hs : starEach [a] X.env = [(false, eval a X.env)] := by rfl) : GIt X σ F cs [] (.Tuple elts kk tpos) (.Call (.Name "enumerate" pp) [a] [] pos) (rT2 rI r) (enumI xs) := fun F1 cs1 H R l u S k =>
  wiB (pi_enum hg hm (pa_cons peW pa_nil hs) hs) (ha F1 cs1 H _ l u S fun v F2 H2 l2 S2 ⟨w, vs, ev, h, hp⟩ => ⟨w, vs, by rw [ev], S2.sqL (h.imp id (fun z => nomatch z)), k _ [] [] F2 H2 l2 (by rw [List.append_nil]; exact S2) (Sub.nil _) fun F' cs' H' l3 u3 S3 n => by
    have hr : Rd H' w (.lst vs) := .inl (S3.rd (h.imp (l3.h _ _) (fun z => nomatch z)))
    refine ⟨fun x hx => ?_, fun hn => ⟨vs, .inl hr, paired_none hp (by rw [← enumI_length]; exact hn)⟩⟩
    obtain ⟨e1, hx⟩ := enumI_get hx
    obtain ⟨y, h1, h2⟩ := Paired.get1 hp hx
    refine ⟨⟨vs, y, .inl hr, h1⟩, fun v H'' ⟨T, y', ev, nT, eH, hv⟩ => ?_⟩
    have := hv vs (.inl hr)
    rw [h1] at this
    obtain rfl := Option.some.inj this
    refine ⟨_, (S3.new nT _).1.le, by rw [eH]; exact (S3.new nT _).2, T, _, _, ev, upd_same, ?_, s.up (l3.trans (S3.new nT _).1.le) (Sub.refl _) h2⟩
    rw [e1]; rfl⟩)
/-- .. of a list in a cell -/
theorem gi_enumC [s : Stable r] {xs : List α} {pp : Pos} {elts : List Expr} {kk : Nat} {tpos p2 : Pos} {n : Nat} {z : Str} {w : Addr} {vs : List V} (hg : Gl X "enumerate") (hm : X.mg "enumerate" = none) (hN : X.N[n]? = some z) (hσ : σ[n]? = some (some (.ref w))) (hw : (w, .lst vs) ∈ cs) (hp : Els r F0 vs xs) [l0 : Le F0 F]
    (hv : Vis X.env.scope z := by first | exact Or.inl rfl | exact Or.inr (Or.inl rfl) | exact Or.inr (Or.inr rfl)) (hd : (z == ("__debug__" : Str)) = false := by decide) (hcd : (z == ("__classdict__" : Str)) = false := by decide) (hs : starEach [.Name z p2] X.env = [(false, eval (.Name z p2) X.env)] := by rfl) :
    GIt X σ F cs [(w, .lst vs)] (.Tuple elts kk tpos) (.Call (.Name "enumerate" pp) [.Name z p2] [] pos) (rT2 rI r) (enumI xs) := fun F1 cs1 H R l u S k =>
  wiB (pi_enum hg hm (pa_cons (pe_var hN hv hd hcd) pa_nil hs) hs) ⟨_, hσ, w, vs, rfl, S.sqL (.inr (u.h _ hw)), k _ [] [(w, .lst vs)] F1 H (Le.refl _) (by rw [List.append_nil]; exact S) ⟨fun p hp => List.mem_append_left _ (List.mem_append_left _ hp)⟩ fun F' cs' H' l3 u3 S3 n => by
    have hr : Rd H' w (.lst vs) := .inl (S3.rd (F := F') (.inr (u3.h _ List.mem_cons_self)))
    refine ⟨fun x hx => ?_, fun hn => ⟨vs, .inl hr, paired_none hp (by rw [← enumI_length]; exact hn)⟩⟩
    obtain ⟨e1, hx⟩ := enumI_get hx
    obtain ⟨y, h1, h2⟩ := Paired.get1 hp hx
    refine ⟨⟨vs, y, .inl hr, h1⟩, fun v H'' ⟨T, y', ev, nT, eH, hv⟩ => ?_⟩
    have := hv vs (.inl hr)
    rw [h1] at this
    obtain rfl := Option.some.inj this
    refine ⟨_, (S3.new nT _).1.le, by rw [eH]; exact (S3.new nT _).2, T, _, _, ev, upd_same, ?_, s.up (l0.trans (l.trans (l3.trans (S3.new nT _).1.le))) (Sub.refl _) h2⟩
    rw [e1]; rfl⟩
/-- zip of two frozen lists -/
theorem gi_zip [s : Stable r] [z : Stable t] {xs : List α} {ys : List β} {pp : Pos} {elts : List Expr} {kk : Nat} {tpos : Pos} (hg : Gl X "zip") (hm : X.mg "zip" = none) (ha : GE X σ F cs a (fz (rL r)) xs) (hb : GE X σ F cs b (fz (rL t)) ys)
    (hs : starEach [a, b] X.env = (false, eval a X.env) :: starEach [b] X.env := by rfl) (hs2 : starEach [b] X.env = (false, eval b X.env) :: starEach [] X.env := by rfl) (hpl : (backTo pos (starEach [b] X.env)).any (·.1) = false := by rfl) :
    GIt X σ F cs [] (.Tuple elts kk tpos) (.Call (.Name "zip" pp) [a, b] [] pos) (rT2 r t) (xs.zip ys) := fun F1 cs1 H R l u S k =>
  wiB (pi_zip hg hm (pa_cons peW (pa_cons peW pa_nil hs2) hs) hs hpl) (ha F1 cs1 H _ l u S fun v F2 H2 l2 S2 ⟨w, vs, ev, h, hp⟩ => hb F2 cs1 H2 _ (l.trans l2) u S2 fun v2 F3 H3 l3 S3 ⟨w2, vs2, ev2, h2, hp2⟩ =>
    ⟨w, w2, vs, vs2, by rw [ev, ev2], S3.sqL (h.imp (l3.h _ _) (fun z => nomatch z)), S3.sqL (h2.imp id (fun z => nomatch z)), k _ [] [] F3 H3 (l2.trans l3) (by rw [List.append_nil]; exact S3) (Sub.nil _) fun F' cs' H' l4 u4 S4 n => by
    have hr : Rd H' w (.lst vs) := .inl (S4.rd (h.imp ((l3.trans l4).h _ _) (fun z => nomatch z)))
    have hr2 : Rd H' w2 (.lst vs2) := .inl (S4.rd (h2.imp (l4.h _ _) (fun z => nomatch z)))
    refine ⟨fun x hx => ?_, fun hn => ⟨vs, vs2, .inl hr, .inl hr2, ?_⟩⟩
    · rw [List.getElem?_zip_eq_some] at hx
      obtain ⟨y, h1, q1⟩ := Paired.get1 hp hx.1
      obtain ⟨y2, h3, q3⟩ := Paired.get1 hp2 hx.2
      refine ⟨⟨vs, vs2, y, y2, .inl hr, .inl hr2, h1, h3⟩, fun v H'' ⟨T, y', y2', ev, nT, eH, hv, hv2⟩ => ?_⟩
      have e1 := hv vs (.inl hr)
      rw [h1] at e1
      obtain rfl := Option.some.inj e1
      have e2 := hv2 vs2 (.inl hr2)
      rw [h3] at e2
      obtain rfl := Option.some.inj e2
      exact ⟨_, (S4.new nT _).1.le, by rw [eH]; exact (S4.new nT _).2, T, _, _, ev, upd_same, s.up (l3.trans (l4.trans (S4.new nT _).1.le)) (Sub.refl _) q1, z.up (l4.trans (S4.new nT _).1.le) (Sub.refl _) q3⟩
    · have e1 : vs.length = xs.length := Paired.length hp
      have e2 : vs2.length = ys.length := Paired.length hp2
      rw [List.length_zip] at hn
      omega⟩)

/-! dicts: locked while they are walked; a frozen dict stays locked, nobody minds -/
theorem WE.lock {H : Hp} {Q : VK} (h : WE X e σ H fun x H1 => ∃ d u, x = .ref d ∧ ((∃ o, H1 d = some (.frz o u) ∧ Q x H1) ∨ (H1 d = some u ∧ L2.Mut (some u) ∧ ∀ o, Q x (upd H1 d (.frz o u))))) : WE X e σ H Q := fun pins s I =>
  thn (h pins s I) fun v s1 ⟨x, H1, I1, rv, d, u, ex, q⟩ => by
    rcases q with ⟨o, _, q⟩ | ⟨hd, mu, q⟩
    · exact ⟨x, H1, I1, rv, q⟩
    · obtain ⟨od, I2⟩ := I1.lock hd mu
      exact ⟨x, _, I2, rv, q od⟩
/-- a dict that lies frozen, or is locked -/
def rDz {α : Type} (r : Rep α) : Rep (List (Int × α)) := fun F cs v xs => ∃ a kvs, v = .ref a ∧ (F a = some (.dK kvs) ∨ ∃ ob, (a, .frz ob (.dK kvs)) ∈ cs) ∧ Ens r F kvs xs
instance {α : Type} (r : Rep α) [s : Stable r] : Stable (rDz r) := ⟨fun {F F' cs cs' v x} l u ⟨a, vs, e, h, q⟩ => ⟨a, vs, e, h.imp (l.h _ _) (fun ⟨ob, z⟩ => ⟨ob, u.h _ z⟩), Ens.up l q⟩⟩
theorem GE.z [Stable r] {xs : List (Int × α)} (h : GE X σ F cs e (fz (rD r)) xs) : GE X σ F cs e (rDz r) xs := fun F1 cs1 H Q l u S k => h F1 cs1 H Q l u S fun v F2 H2 l2 S2 ⟨d, kvs, ev, hd, hp⟩ => k v F2 H2 l2 S2 ⟨d, kvs, ev, hd.elim .inl (fun z => z.elim (fun q => nomatch q) fun ⟨_, q⟩ => nomatch q), hp⟩
/-- cells in another order -/
theorem Sta.perm {H : Hp} {cs' : Cs} (S : Sta F cs H) (h : cs.Perm cs') : Sta F cs' H := ⟨S.le, fun p hp => S.has p (h.mem_iff.mpr hp), fun p hp => S.off p (h.mem_iff.mpr hp), ((h.map _).nodup_iff).mp S.nd⟩
/-- the state with the dict locked -/
theorem Sta.lock {H : Hp} (S : Sta F cs H) {d : Addr} {kvs : List (Key × V)} (h : F d = some (.dK kvs) ∨ ∃ ob, (d, .frz ob (.dK kvs)) ∈ cs) :
    ((∃ o, H d = some (.frz o (.dK kvs))) ∨ H d = some (.dK kvs)) ∧ ∀ o, (H d = some (.frz o (.dK kvs)) → ∃ pre, Sta F (cs ++ pre) H ∧ (d, .frz o (.dK kvs)) ∈ cs ++ pre) ∧ (H d = some (.dK kvs) → ∃ pre, Sta F (cs ++ pre) (upd H d (.frz o (.dK kvs))) ∧ (d, .frz o (.dK kvs)) ∈ cs ++ pre) := by
  have hH : (∃ o, H d = some (.frz o (.dK kvs))) ∨ H d = some (.dK kvs) := by
    rcases h with h | ⟨ob, h⟩
    · rcases S.le _ _ h with z | ⟨_, ob, z⟩
      · exact .inr z
      · exact .inl ⟨ob, z⟩
    · exact .inl ⟨ob, S.has _ h⟩
  refine ⟨hH, fun o => ⟨fun z => ?_, fun z => ?_⟩⟩
  · by_cases q : ∃ p ∈ cs, p.1 = d
    · obtain ⟨⟨p1, p2⟩, hp, rfl⟩ := q
      have := S.has _ hp
      have e2 : p2 = .frz o (.dK kvs) := by
        have t := this.symm.trans z
        exact Option.some.inj t
      exact ⟨[], by rw [List.append_nil]; exact S, by rw [e2] at hp; exact List.mem_append_left _ hp⟩
    · have S' : Sta F ((d, .frz o (.dK kvs)) :: cs) H := ⟨S.le, fun p hp => by
          rcases List.mem_cons.mp hp with e | hp
          · rw [e]; exact z
          · exact S.has p hp, fun p hp => by
          rcases List.mem_cons.mp hp with e | hp
          · rw [e]; exact .inr ⟨o, _, rfl, True.intro⟩
          · exact S.off p hp, by
          show (d :: cs.map (·.1)).Nodup
          rw [List.nodup_cons]
          exact ⟨fun hm => let ⟨p, hp, e⟩ := List.mem_map.mp hm; q ⟨p, hp, e⟩, S.nd⟩⟩
      exact ⟨[(d, .frz o (.dK kvs))], S'.perm (List.perm_append_singleton _ _).symm, List.mem_append_right _ List.mem_cons_self⟩
  · have hF : F d = some (.dK kvs) := by
      rcases h with h | ⟨ob, h⟩
      · exact h
      · have := S.has _ h
        have t := z.symm.trans this
        cases t
    have hno : ∀ p ∈ cs, p.1 ≠ d := fun p hp e => by
      rcases S.off p hp with q | ⟨ob, u, q, _⟩
      · rw [e, hF] at q; cases q
      · have := S.has p hp
        rw [e, z, q] at this; cases this
    have S' : Sta F ((d, .frz o (.dK kvs)) :: cs) (upd H d (.frz o (.dK kvs))) := ⟨fun a u ha => by
        by_cases e : a = d
        · subst e
          rw [hF] at ha; cases ha
          exact .inr ⟨True.intro, o, upd_same⟩
        · rw [upd_ne e]; exact S.le a u ha, fun p hp => by
        rcases List.mem_cons.mp hp with e | hp
        · rw [e]; exact upd_same
        · rw [upd_ne (hno p hp)]; exact S.has p hp, fun p hp => by
        rcases List.mem_cons.mp hp with e | hp
        · rw [e]; exact .inr ⟨o, _, rfl, True.intro⟩
        · exact S.off p hp, by
        show (d :: cs.map (·.1)).Nodup
        rw [List.nodup_cons]
        exact ⟨fun hm => let ⟨p, hp, e⟩ := List.mem_map.mp hm; hno p hp e, S.nd⟩⟩
    exact ⟨[(d, .frz o (.dK kvs))], S'.perm (List.perm_append_singleton _ _).symm, List.mem_append_right _ List.mem_cons_self⟩
theorem Ens.get {F : Hp} {kvs : List (Key × V)} {xs : List (Int × α)} (h : Ens r F kvs xs) {n : Nat} {x : Int × α} (e : xs[n]? = some x) : ∃ v, kvs[n]? = some (.inl x.1, v) ∧ r F [] v x.2 := by
  obtain ⟨⟨k, v⟩, h1, h2, h3⟩ := Paired.get1 h e
  exact ⟨v, by rw [h1, ← h2], h3⟩
theorem gi_items [s : Stable r] {xs : List (Int × α)} {ap : Pos} {elts : List Expr} {kk : Nat} {tpos : Pos} (ha : GE X σ F cs e (rDz r) xs) (hbase : attributeBase e "items" X.env (eval e X.env) = eval e X.env := by rfl) (hline : (ap.endLine == pos.line) = true := by rfl) :
    GIt X σ F cs [] (.Tuple elts kk tpos) (.Call (.Attribute e "items" ap) [] [] pos) (rT2 rI r) xs := fun F1 cs1 H R l u S k =>
  wiB (pi_items peW hbase hline) (WE.lock (ha F1 cs1 H _ l u S fun v F2 H2 l2 S2 ⟨d, kvs, ev, hd, hp⟩ => by
    have fin : ∀ (o : Obj) (H3 : Hp) (pre : Cs), Sta F2 (cs1 ++ pre) H3 → (d, .frz o (.dK kvs)) ∈ cs1 ++ pre → ∃ d' o' kvs', v = .ref d' ∧ H3 d' = some (.frz o' (.dK kvs')) ∧ R (Iti d' o' kvs') H3 := fun o H3 pre S3 hm => by
      refine ⟨d, o, kvs, ev, S3.has _ hm, ?_⟩
      refine k _ pre [(d, .frz o (.dK kvs))] F2 H3 l2 S3 ⟨fun p hp => ?_⟩ fun F' cs' H' l3 u3 S4 n => ?_
      · rw [List.mem_singleton.mp hp]
        rcases List.mem_append.mp hm with z | z
        · exact List.mem_append_left _ (List.mem_append_right _ (mem_frzs z))
        · exact List.mem_append_right _ z
      · have hH := S4.has _ (u3.h _ List.mem_cons_self)
        have hlen : kvs.length = xs.length := Paired.length hp
        refine ⟨fun x hx => ?_, fun hn => ⟨hH, by omega⟩⟩
        obtain ⟨y, h1, h2⟩ := hp.get hx
        refine ⟨⟨hH, (List.getElem?_eq_some_iff.mp h1).1⟩, fun v H'' ⟨T, k', v', hk, ev, nT, eH⟩ => ?_⟩
        rw [h1] at hk
        cases hk
        exact ⟨_, (S4.new nT _).1.le, by rw [eH]; exact (S4.new nT _).2, T, _, _, ev, upd_same, rfl, s.up (l3.trans (S4.new nT _).1.le) (Sub.refl _) h2⟩
    obtain ⟨hh, hl⟩ := S2.lock (hd.imp id id)
    rcases hh with ⟨o, hh⟩ | hh
    · obtain ⟨pre, S3, hm⟩ := (hl o).1 hh
      exact ⟨d, .dK kvs, ev, .inl ⟨o, hh, fin o H2 pre S3 hm⟩⟩
    · exact ⟨d, .dK kvs, ev, .inr ⟨hh, True.intro, fun o => by
        obtain ⟨pre, S3, hm⟩ := (hl o).2 hh
        exact fin o _ pre S3 hm⟩⟩))
theorem gi_keys [s : Stable r] {xs : List (Int × α)} (ha : GE X σ F cs e (rDz r) xs) : GIt X σ F cs [] tg e rI (xs.map (·.1)) := fun F1 cs1 H R l u S k =>
  wiB (pi_keys peW) (WE.lock (ha F1 cs1 H _ l u S fun v F2 H2 l2 S2 ⟨d, kvs, ev, hd, hp⟩ => by
    have fin : ∀ (o : Obj) (H3 : Hp) (pre : Cs), Sta F2 (cs1 ++ pre) H3 → (d, .frz o (.dK kvs)) ∈ cs1 ++ pre → ∃ d' o', v = .ref d' ∧ ((∃ kvs', H3 d' = some (.frz o' (.dK kvs')) ∧ R (Itk d' o' kvs') H3) ∨ ∃ kvs', H3 d' = some (.frz o' (.dT kvs')) ∧ R (Itkt d' o' kvs') H3) := fun o H3 pre S3 hm => by
      refine ⟨d, o, ev, .inl ⟨kvs, S3.has _ hm, ?_⟩⟩
      refine k _ pre [(d, .frz o (.dK kvs))] F2 H3 l2 S3 ⟨fun p hp => ?_⟩ fun F' cs' H' l3 u3 S4 n => ?_
      · rw [List.mem_singleton.mp hp]
        rcases List.mem_append.mp hm with z | z
        · exact List.mem_append_left _ (List.mem_append_right _ (mem_frzs z))
        · exact List.mem_append_right _ z
      · have hH := S4.has _ (u3.h _ List.mem_cons_self)
        have hlen : kvs.length = xs.length := Paired.length hp
        refine ⟨fun x hx => ?_, fun hn => ⟨hH, by rw [List.length_map] at hn; omega⟩⟩
        rw [List.getElem?_map] at hx
        obtain ⟨p, hx', rfl⟩ := Option.map_eq_some_iff.mp hx
        obtain ⟨y, h1, h2⟩ := hp.get hx'
        refine ⟨⟨hH, (List.getElem?_eq_some_iff.mp h1).1⟩, fun v H'' ⟨eH, k', v', hk, ev⟩ => ?_⟩
        rw [h1] at hk
        cases hk
        exact ⟨F', Le.refl _, by rw [eH]; exact S4, ev⟩
    obtain ⟨hh, hl⟩ := S2.lock (hd.imp id id)
    rcases hh with ⟨o, hh⟩ | hh
    · obtain ⟨pre, S3, hm⟩ := (hl o).1 hh
      exact ⟨d, .dK kvs, ev, .inl ⟨o, hh, fin o H2 pre S3 hm⟩⟩
    · exact ⟨d, .dK kvs, ev, .inr ⟨hh, True.intro, fun o => by
        obtain ⟨pre, S3, hm⟩ := (hl o).2 hh
        exact fin o _ pre S3 hm⟩⟩))
end
end DL

-- part DLd
/-! DL, fourth part: comprehensions, statements, calls. -/
namespace DL
open PySem PySem.Spec PyProof.Rows L2

section
variable {X : Cx}
def WTs (X : Cx) (ifs : List Expr) (σ : Sl) (H : Hp) (Q : Bool → Hp → Prop) : Prop :=
  ∀ (pins : List (Addr × Obj)) (s : Shared), Inv X pins σ H s → wpAny (model X.prog X.w) X.A (forIn ifs true fun c r => if r = true then do let ok ← isTrue c X.env (eval c X.env); pure (ForInStep.yield ok) else pure (ForInStep.yield r)) (TP X pins σ Q) X.xe s
theorem ptsW {ifs : List Expr} : PTs X ifs (WTs X ifs) := ⟨fun pins s _ _ _ I h => h pins s I⟩
def GTs (X : Cx) (σ : Sl) (F : Hp) (cs : Cs) (ifs : List Expr) (b : Bool) : Prop :=
  ∀ (F1 : Hp) (cs1 : Cs) (H : Hp) (Q : Bool → Hp → Prop), Le F F1 → Sub cs cs1 → Sta F1 cs1 H → (∀ F2 H2, Le F1 F2 → Sta F2 cs1 H2 → Q b H2) → WTs X ifs σ H Q
theorem gts_nil {σ : Sl} {F : Hp} {cs : Cs} : GTs X σ F cs [] true := fun F1 cs1 H Q l u S k => fun pins s I => pts_nil.run pins s σ H Q I (k F1 H (Le.refl _) S)
theorem gts_one {σ : Sl} {F : Hp} {cs : Cs} {c : Expr} {p : Bool} (h : GT X σ F cs c p) : GTs X σ F cs [c] p := fun F1 cs1 H Q l u S k => fun pins s I => (pts_one ptW).run pins s σ H Q I (h F1 cs1 H Q l u S k)
end
section
variable {X : Cx} {scope : Scope}
/-- the block's contexts, all at once -/
def bWG (X : Cx) (scope : Scope) (tg : Expr) : TG := fun v σ H Q => ∀ (s : Shared) (H0 : Hp) (C : Addr) (cl : List (Str × Addr)) (fp : List Addr), WG (X.blk s H0 scope (compEnvC scope cl C X.env) fp) tg v σ H Q
def bWT (X : Cx) (scope : Scope) (ifs : List Expr) : TT := fun σ H Q => ∀ (s : Shared) (H0 : Hp) (C : Addr) (cl : List (Str × Addr)) (fp : List Addr), WTs (X.blk s H0 scope (compEnvC scope cl C X.env) fp) ifs σ H Q
def bWE (X : Cx) (scope : Scope) (e : Expr) : TE := fun σ H Q => ∀ (s : Shared) (H0 : Hp) (C : Addr) (cl : List (Str × Addr)) (fp : List Addr), WE (X.blk s H0 scope (compEnvC scope cl C X.env) fp) e σ H Q
theorem bpg {tg : Expr} : ∀ (s : Shared) (H : Hp) (C : Addr) (cl : List (Str × Addr)) (fp : List Addr), PG (X.blk s H scope (compEnvC scope cl C X.env) fp) tg (bWG X scope tg) := fun s H C cl fp => ⟨fun pins s' _ _ _ u _ I r h => h s H C cl fp pins s' u I r⟩
theorem bpt {ifs : List Expr} : ∀ (s : Shared) (H : Hp) (C : Addr) (cl : List (Str × Addr)) (fp : List Addr), PTs (X.blk s H scope (compEnvC scope cl C X.env) fp) ifs (bWT X scope ifs) := fun s H C cl fp => ⟨fun pins s' _ _ _ I h => h s H C cl fp pins s' I⟩
theorem bpe {e : Expr} : ∀ (s : Shared) (H : Hp) (C : Addr) (cl : List (Str × Addr)) (fp : List Addr), PE (X.blk s H scope (compEnvC scope cl C X.env) fp) e (bWE X scope e) := fun s H C cl fp => ⟨fun pins s' _ _ _ I h => h s H C cl fp pins s' I⟩
end

section lc
variable {X : Cx} {σ : Sl} {F F0 : Hp} {cs cs0 c0 : Cs} {tg iter elt kx vx : Expr} {ifs : List Expr} {scope : Scope} {pos : Pos} {α β γ : Type} {r : Rep α} {t : Rep β} {B : Hp → V → α → Sl → Sl → Prop} {is : List Nat} {own : List (Str × Nat)}
theorem Sta.dropPre {H : Hp} : ∀ {pre cs : Cs}, Sta F (cs ++ pre) H → Sta F cs H := fun {pre cs} S => S.sub (List.sublist_append_left cs pre)
theorem take_succ_get {xs : List α} {i : Nat} {x : α} (h : xs[i]? = some x) : xs.take (i + 1) = xs.take i ++ [x] := by
  rw [List.take_add_one, h]; rfl
/-- the loop of [elt for tg in iter if ..] -/
theorem tlc_core {xs : List α} {vs : List Nat} (p : α → Bool) (g : α → β) [s : Stable r] [z : Stable t] (hi : GIt X σ F cs c0 tg iter r xs) (hsub : Sub c0 cs)
    (hb : ∀ (s : Shared) (H0 : Hp) (C : Addr) (cl : List (Str × Addr)) (fp : List Addr), GB (X.blk s H0 scope (compEnvC scope cl C X.env) fp) tg r B is) (his : ∀ i ∈ is, i ∈ vs)
    (ht : ∀ (F1 : Hp) (v : V) (x : α) (σ1 : Sl), Le1 F F1 → x ∈ xs → B F1 v x (wipe σ vs) σ1 → ∀ (s : Shared) (H0 : Hp) (C : Addr) (cl : List (Str × Addr)) (fp : List Addr), GTs (X.blk s H0 scope (compEnvC scope cl C X.env) fp) σ1 F1 cs ifs (p x))
    (he : ∀ (F1 : Hp) (v : V) (x : α) (σ1 : Sl), Le1 F F1 → x ∈ xs → B F1 v x (wipe σ vs) σ1 → p x = true → ∀ (s : Shared) (H0 : Hp) (C : Addr) (cl : List (Str × Addr)) (fp : List Addr), GE (X.blk s H0 scope (compEnvC scope cl C X.env) fp) σ1 F1 cs elt (fz t) (g x))
    (hz : xs.length ≤ sizeLine)
    {F1 : Hp} {cs1 : Cs} {H : Hp} {Q : VK} (l : Le F F1) (u : Sub cs cs1) (S : Sta F1 cs1 H) (k : ∀ D acc F2 H2, Le F1 F2 → Sta F2 ((D, .lst acc) :: cs1) H2 → Els t F2 acc ((xs.filter p).map g) → Q (.ref D) H2) :
    tLc (WI X tg iter) (bWG X scope tg) (bWT X scope ifs) (bWE X scope elt) vs σ H Q := by
  refine hi F1 cs1 H _ l u S fun J pre c1 F2 H2 l2 S2 hc hw D hD => ?_
  have uc : Sub c1 (cs1 ++ pre) := hc.trans ⟨fun q hq => by
    rcases List.mem_append.mp hq with h | h
    · rcases List.mem_append.mp h with h | h
      · exact List.mem_append_left _ (u.h _ (hsub.h _ h))
      · exact List.mem_append_left _ (frzs_sub.h _ h)
    · exact List.mem_append_right _ h⟩
  refine ⟨fun i m H' => m = xs.length - i ∧ i ≤ xs.length ∧ ∃ F' acc, Le F2 F' ∧ Sta F' ((D, .lst acc) :: (cs1 ++ pre)) H' ∧ Els t F' acc (((xs.take i).filter p).map g), ⟨xs.length, by omega, Nat.zero_le _, F2, [], Le.refl _, S2.cell hD _, .nil⟩, ?_⟩
  rintro i m H' ⟨rfl, hle, F', acc, l3, S3, hacc⟩
  have hwi := hw F' ((D, .lst acc) :: (cs1 ++ pre)) H' l3 (uc.trans ⟨fun q hq => List.mem_cons_of_mem _ hq⟩) S3 i
  by_cases hlt : i < xs.length
  · have hx : xs[i]? = some xs[i] := List.getElem?_eq_getElem hlt
    generalize xs[i] = x at hx
    have hxm : x ∈ xs := List.mem_of_getElem? hx
    obtain ⟨hgo, hyld⟩ := hwi.1 x hx
    refine .inr ⟨hgo, fun H'' => ∃ F' acc, Le F2 F' ∧ Sta F' ((D, .lst acc) :: (cs1 ++ pre)) H'' ∧ Els t F' acc (((xs.take (i + 1)).filter p).map g), fun H'' q => ⟨xs.length - (i + 1), by omega, rfl, hlt, q⟩, fun v H'' hy => ?_⟩
    obtain ⟨F3, l4, S4, hr⟩ := hyld v H'' hy
    intro s0 H0 C cl fp
    refine (hb s0 H0 C cl fp).run F3 _ H'' v x (wipe σ vs) _ S4 hr fun σ1 b1 => ⟨((hb s0 H0 C cl fp).own F3 v x _ _ vs his b1).trans (wipe_wipe σ vs), ?_⟩
    have l5 : Le F F3 := l.trans (l2.trans (l3.trans l4))
    have uu : Sub cs ((D, .lst acc) :: (cs1 ++ pre)) := u.trans ⟨fun q hq => List.mem_cons_of_mem _ (List.mem_append_left _ hq)⟩
    intro s1 H1 C1 cl1 fp1
    refine ht F3 v x σ1 l5.one hxm b1 s1 H1 C1 cl1 fp1 F3 _ H'' _ (Le.refl _) uu S4 fun F4 H4 l6 S5 => ?_
    cases hp : p x with
    | false =>
      rw [if_neg Bool.false_ne_true]
      refine ⟨F4, acc, l3.trans (l4.trans l6), S5, ?_⟩
      rw [take_succ_get hx, List.filter_append, List.map_append]
      have : (([x] : List α).filter p).map g = [] := by rw [List.filter_cons_of_neg (by rw [hp]; exact Bool.false_ne_true)]; rfl
      rw [this, List.append_nil]
      exact Els.up (l4.trans l6) hacc
    | true =>
      rw [if_pos rfl]
      intro s2 H2' C2 cl2 fp2
      refine he F3 v x σ1 l5.one hxm b1 hp s2 H2' C2 cl2 fp2 F4 _ H4 _ l6 uu S5 fun y F5 H5 l7 S6 hy => ?_
      have hlen : acc.length < sizeLine := by
        have h1 := Els.len hacc
        have h2 : (((xs.take i).filter p).map g).length ≤ i := by
          rw [List.length_map]
          exact Nat.le_trans (List.length_filter_le _ _) (by rw [List.length_take]; exact Nat.min_le_left _ _)
        omega
      refine ⟨acc, S6.has _ List.mem_cons_self, hlen, F5, acc ++ [y], l3.trans (l4.trans (l6.trans l7)), S6.set (i := 0) rfl (fun ob u e => by cases e), ?_⟩
      rw [take_succ_get hx, List.filter_append, List.map_append]
      have : (([x] : List α).filter p).map g = [g x] := by rw [List.filter_cons_of_pos hp]; rfl
      rw [this]
      exact Paired.app (Els.up (l4.trans (l6.trans l7)) hacc) (.cons hy .nil)
  · have ei : i = xs.length := by omega
    subst ei
    refine .inl ⟨hwi.2 (Nat.le_refl _), ?_⟩
    rw [List.take_length] at hacc
    exact k D acc F' H' (l2.trans l3) (S3.sub (List.Sublist.cons_cons _ (List.sublist_append_left cs1 pre))) hacc
/-- a new list in a cell, frozen -/
theorem frz_lst {F1 : Hp} {cs1 : Cs} {H2 : Hp} {Q : VK} {ys : List β} [z : Stable t] (k : ∀ v F2 H2, Le F1 F2 → Sta F2 cs1 H2 → fz (rL t) F2 cs1 v ys → Q v H2) (D : Addr) (acc : List V) (F2 : Hp) (l : Le F1 F2) (S : Sta F2 ((D, .lst acc) :: cs1) H2) (h : Els t F2 acc ys) : Q (.ref D) H2 :=
  let ⟨l4, S4⟩ := S.freeze (fun ob u e => by cases e)
  k _ _ _ (l.trans l4.le) S4 ⟨D, acc, rfl, .inl upd_same, Els.up l4.le h⟩
theorem frz_dct {F1 : Hp} {cs1 : Cs} {H2 : Hp} {Q : VK} {ys : List (Int × β)} [z : Stable t] (k : ∀ v F2 H2, Le F1 F2 → Sta F2 cs1 H2 → fz (rD t) F2 cs1 v ys → Q v H2) (D : Addr) (acc : List (Key × V)) (F2 : Hp) (l : Le F1 F2) (S : Sta F2 ((D, .dK acc) :: cs1) H2) (h : Ens t F2 acc ys) : Q (.ref D) H2 :=
  let ⟨l4, S4⟩ := S.freeze (fun ob u e => by cases e)
  k _ _ _ (l.trans l4.le) S4 ⟨D, acc, rfl, .inl upd_same, Ens.up l4.le h⟩
theorem ge_lc {xs : List α} (p : α → Bool) (g : α → β) [s : Stable r] [z : Stable t] (hc : X.calm = true) (hN : X.N.Nodup) (ok : BlkOk X.N X.env.scope scope own) (hi : GIt X σ F cs c0 tg iter r xs) (hsub : Sub c0 cs)
    (hb : ∀ (s : Shared) (H0 : Hp) (C : Addr) (cl : List (Str × Addr)) (fp : List Addr), GB (X.blk s H0 scope (compEnvC scope cl C X.env) fp) tg r B is) (his : ∀ i ∈ is, i ∈ own.map (·.2))
    (ht : ∀ (F1 : Hp) (v : V) (x : α) (σ1 : Sl), Le1 F F1 → x ∈ xs → B F1 v x (wipe σ (own.map (·.2))) σ1 → ∀ (s : Shared) (H0 : Hp) (C : Addr) (cl : List (Str × Addr)) (fp : List Addr), GTs (X.blk s H0 scope (compEnvC scope cl C X.env) fp) σ1 F1 cs ifs (p x))
    (he : ∀ (F1 : Hp) (v : V) (x : α) (σ1 : Sl), Le1 F F1 → x ∈ xs → B F1 v x (wipe σ (own.map (·.2))) σ1 → p x = true → ∀ (s : Shared) (H0 : Hp) (C : Addr) (cl : List (Str × Addr)) (fp : List Addr), GE (X.blk s H0 scope (compEnvC scope cl C X.env) fp) σ1 F1 cs elt (fz t) (g x))
    (hz : xs.length ≤ sizeLine) (hs : ∀ x, foldedSetIterable iter X.env x = pure x := by intro _; rfl) : GE X σ F cs (.ListComp elt [⟨tg, iter, ifs, 0⟩] scope pos) (fz (rL t)) ((xs.filter p).map g) := fun F1 cs1 H Q l u S k =>
  weB (pe_lc hc hN piW ok bpg bpt bpe hs) (tlc_core p g hi hsub hb his ht he hz l u S fun D acc F2 H2 => frz_lst k D acc F2)
/-- no test -/
theorem ge_lc0 {xs : List α} (g : α → β) [s : Stable r] [z : Stable t] (hc : X.calm = true) (hN : X.N.Nodup) (ok : BlkOk X.N X.env.scope scope own) (hi : GIt X σ F cs c0 tg iter r xs) (hsub : Sub c0 cs)
    (hb : ∀ (s : Shared) (H0 : Hp) (C : Addr) (cl : List (Str × Addr)) (fp : List Addr), GB (X.blk s H0 scope (compEnvC scope cl C X.env) fp) tg r B is) (his : ∀ i ∈ is, i ∈ own.map (·.2))
    (he : ∀ (F1 : Hp) (v : V) (x : α) (σ1 : Sl), Le1 F F1 → x ∈ xs → B F1 v x (wipe σ (own.map (·.2))) σ1 → ∀ (s : Shared) (H0 : Hp) (C : Addr) (cl : List (Str × Addr)) (fp : List Addr), GE (X.blk s H0 scope (compEnvC scope cl C X.env) fp) σ1 F1 cs elt (fz t) (g x))
    (hz : xs.length ≤ sizeLine) (hs : ∀ x, foldedSetIterable iter X.env x = pure x := by intro _; rfl) : GE X σ F cs (.ListComp elt [⟨tg, iter, [], 0⟩] scope pos) (fz (rL t)) (xs.map g) := by
  have h := ge_lc (pos := pos) (ifs := []) (fun _ => true) g hc hN ok hi hsub hb his (fun _ _ _ _ _ _ _ _ _ _ _ _ => gts_nil) (fun F1 v x σ1 a b c _ => he F1 v x σ1 a b c) hz hs
  rw [List.filter_eq_self.mpr (fun _ _ => rfl)] at h
  exact h

/-! {kx: vx for tg in iter} with int keys -/
def put {α : Type} (xs : List (Int × α)) (k : Int) (y : α) : List (Int × α) := if (look xs k).isSome then xs.map fun p => if p.1 = k then (p.1, y) else p else xs ++ [(k, y)]
theorem look_put (xs : List (Int × α)) (k j : Int) (y : α) : look (put xs k y) j = if j = k then some y else look xs j := by
  unfold put
  cases h : look xs k with
  | none =>
    rw [if_neg (by simp)]
    induction xs with
    | nil =>
      rw [List.nil_append, look_cons, look_nil]
      by_cases e : j = k
      · subst e; simp
      · rw [if_neg (fun z => e z.symm), if_neg e]
    | cons p xs ih =>
      rw [look_cons] at h
      by_cases e : p.1 = k
      · rw [if_pos e] at h; cases h
      · rw [if_neg e] at h
        rw [List.cons_append, look_cons, look_cons, ih h]
        by_cases e2 : p.1 = j
        · rw [if_pos e2, if_pos e2, if_neg (fun z => e (e2.trans z))]
        · rw [if_neg e2, if_neg e2]
  | some w =>
    rw [if_pos (show (some w).isSome = true from rfl)]
    have h0 := h
    clear h
    have : ∀ xs : List (Int × α), (look xs k).isSome → look (xs.map fun p => if p.1 = k then (p.1, y) else p) j = if j = k then some y else look xs j := by
      intro xs
      induction xs with
      | nil => intro h; cases h
      | cons p xs ih =>
        intro h
        rw [List.map_cons, look_cons, look_cons]
        by_cases e : p.1 = k
        · rw [if_pos e]
          by_cases e2 : p.1 = j
          · rw [if_pos e2, if_pos (e2.symm.trans e)]
          · rw [if_neg e2, if_neg (fun z => e2 (e.trans z.symm)), if_neg e2]
            -- the rest: no key is j = k
            have hjk : ¬ j = k := fun z => e2 (e.trans z.symm)
            clear ih h
            induction xs with
            | nil => rfl
            | cons q xs ih =>
              rw [List.map_cons, look_cons, look_cons]
              by_cases e3 : q.1 = k
              · rw [if_pos e3, if_neg (fun z => hjk (z.symm.trans e3)), if_neg (fun z => hjk (z.symm.trans e3)), ih]
              · rw [if_neg e3, ih]
        · rw [if_neg e]
          rw [look_cons, if_neg e] at h
          rw [ih h]
          by_cases e2 : p.1 = j
          · rw [if_pos e2, if_pos e2, if_neg (fun z => e (e2.trans z))]
          · rw [if_neg e2, if_neg e2]
    exact this xs (by rw [h0]; rfl)
theorem Ens.put {kvs : List (Key × V)} {xs : List (Int × α)} (h : Ens r F kvs xs) {k : Int} {v : V} {y : α} (hv : r F [] v y) : Ens r F (putK kvs (.inl k) v) (put xs k y) := by
  have hl := h.look k
  unfold putK DL.put
  rw [valV_any, RO.isSome hl]
  cases DL.look xs k with
  | none =>
    rw [if_neg (by simp), if_neg (by simp)]
    exact Paired.app h (.cons ⟨rfl, hv⟩ .nil)
  | some w =>
    rw [if_pos (show (some w).isSome = true from rfl), if_pos (show (some w).isSome = true from rfl)]
    clear hl
    induction h with
    | nil => exact .nil
    | @cons kv x kvs xs q t ih =>
      rw [List.map_cons, List.map_cons]
      refine .cons ?_ ih
      by_cases e : x.1 = k
      · rw [if_pos e, if_pos (by rw [q.1, e])]
        exact ⟨q.1, hv⟩
      · rw [if_neg e, if_neg (by rw [q.1]; exact fun z => e (Sum.inl.inj z))]
        exact q
theorem put_length (xs : List (Int × α)) (k : Int) (y : α) : (put xs k y).length ≤ xs.length + 1 := by
  unfold put
  split
  · rw [List.length_map]; omega
  · simp
theorem tdc_core {xs : List α} {vs : List Nat} (gk : α → Int) (gv : α → β) [s : Stable r] [z : Stable t] (hi : GIt X σ F cs c0 tg iter r xs) (hsub : Sub c0 cs)
    (hb : ∀ (s : Shared) (H0 : Hp) (C : Addr) (cl : List (Str × Addr)) (fp : List Addr), GB (X.blk s H0 scope (compEnvC scope cl C X.env) fp) tg r B is) (his : ∀ i ∈ is, i ∈ vs)
    (hk : ∀ (F1 : Hp) (v : V) (x : α) (σ1 : Sl), Le1 F F1 → x ∈ xs → B F1 v x (wipe σ vs) σ1 → ∀ (s : Shared) (H0 : Hp) (C : Addr) (cl : List (Str × Addr)) (fp : List Addr), GE (X.blk s H0 scope (compEnvC scope cl C X.env) fp) σ1 F1 cs kx rI (gk x))
    (he : ∀ (F1 : Hp) (v : V) (x : α) (σ1 : Sl), Le1 F F1 → x ∈ xs → B F1 v x (wipe σ vs) σ1 → ∀ (s : Shared) (H0 : Hp) (C : Addr) (cl : List (Str × Addr)) (fp : List Addr), GE (X.blk s H0 scope (compEnvC scope cl C X.env) fp) σ1 F1 cs vx (fz t) (gv x))
    (hz : xs.length ≤ sizeLine)
    {F1 : Hp} {cs1 : Cs} {H : Hp} {Q : VK} (l : Le F F1) (u : Sub cs cs1) (S : Sta F1 cs1 H) (k : ∀ D acc F2 H2, Le F1 F2 → Sta F2 ((D, .dK acc) :: cs1) H2 → Ens t F2 acc (xs.foldl (fun d x => put d (gk x) (gv x)) []) → Q (.ref D) H2) :
    tDc (WI X tg iter) (bWG X scope tg) (bWT X scope []) (bWE X scope kx) (bWE X scope vx) vs σ H Q := by
  refine hi F1 cs1 H _ l u S fun J pre c1 F2 H2 l2 S2 hc hw D hD => ?_
  have uc : Sub c1 (cs1 ++ pre) := hc.trans ⟨fun q hq => by
    rcases List.mem_append.mp hq with h | h
    · rcases List.mem_append.mp h with h | h
      · exact List.mem_append_left _ (u.h _ (hsub.h _ h))
      · exact List.mem_append_left _ (frzs_sub.h _ h)
    · exact List.mem_append_right _ h⟩
  have lenF : ∀ (ys : List α) (d : List (Int × β)), (ys.foldl (fun d x => put d (gk x) (gv x)) d).length ≤ d.length + ys.length := by
    intro ys
    induction ys with
    | nil => intro d; exact Nat.le_refl _
    | cons y ys ih =>
      intro d
      rw [List.foldl_cons, List.length_cons]
      have := ih (put d (gk y) (gv y))
      have := put_length d (gk y) (gv y)
      omega
  refine ⟨fun i m H' => m = xs.length - i ∧ i ≤ xs.length ∧ ∃ F' acc, Le F2 F' ∧ Sta F' ((D, .dK acc) :: (cs1 ++ pre)) H' ∧ Ens t F' acc ((xs.take i).foldl (fun d x => put d (gk x) (gv x)) []), ⟨xs.length, by omega, Nat.zero_le _, F2, [], Le.refl _, S2.cell hD _, .nil⟩, ?_⟩
  rintro i m H' ⟨rfl, hle, F', acc, l3, S3, hacc⟩
  have hwi := hw F' ((D, .dK acc) :: (cs1 ++ pre)) H' l3 (uc.trans ⟨fun q hq => List.mem_cons_of_mem _ hq⟩) S3 i
  by_cases hlt : i < xs.length
  · have hx : xs[i]? = some xs[i] := List.getElem?_eq_getElem hlt
    generalize xs[i] = x at hx
    have hxm : x ∈ xs := List.mem_of_getElem? hx
    obtain ⟨hgo, hyld⟩ := hwi.1 x hx
    refine .inr ⟨hgo, fun H'' => ∃ F' acc, Le F2 F' ∧ Sta F' ((D, .dK acc) :: (cs1 ++ pre)) H'' ∧ Ens t F' acc ((xs.take (i + 1)).foldl (fun d x => put d (gk x) (gv x)) []), fun H'' q => ⟨xs.length - (i + 1), by omega, rfl, hlt, q⟩, fun v H'' hy => ?_⟩
    obtain ⟨F3, l4, S4, hr⟩ := hyld v H'' hy
    intro s0 H0 C cl fp
    refine (hb s0 H0 C cl fp).run F3 _ H'' v x (wipe σ vs) _ S4 hr fun σ1 b1 => ⟨((hb s0 H0 C cl fp).own F3 v x _ _ vs his b1).trans (wipe_wipe σ vs), ?_⟩
    have l5 : Le F F3 := l.trans (l2.trans (l3.trans l4))
    have uu : Sub cs ((D, .dK acc) :: (cs1 ++ pre)) := u.trans ⟨fun q hq => List.mem_cons_of_mem _ (List.mem_append_left _ hq)⟩
    intro s1 H1 C1 cl1 fp1
    refine gts_nil (X := X.blk s1 H1 scope (compEnvC scope cl1 C1 X.env) fp1) (F := F3) (cs := []) F3 _ H'' _ (Le.refl _) (Sub.nil _) S4 fun F4 H4 l6 S5 => ?_
    rw [if_pos rfl]
    intro s2 H2' C2 cl2 fp2
    refine hk F3 v x σ1 l5.one hxm b1 s2 H2' C2 cl2 fp2 F4 _ H4 _ l6 uu S5 fun y F5 H5 l7 S6 hy => ?_
    intro s3 H3' C3 cl3 fp3
    refine he F3 v x σ1 l5.one hxm b1 s3 H3' C3 cl3 fp3 F5 _ H5 _ (l6.trans l7) uu S6 fun w F6 H6 l8 S7 hw' => ?_
    have hlen : acc.length < sizeLine := by
      have h1 : acc.length = _ := Paired.length hacc
      have h2 := lenF (xs.take i) []
      rw [List.length_take] at h2
      have : ([] : List (Int × β)).length = 0 := rfl
      omega
    refine ⟨acc, .inl (gk x), hy, S7.has _ List.mem_cons_self, hlen, F6, putK acc (.inl (gk x)) w, l3.trans (l4.trans (l6.trans (l7.trans l8))), S7.set (i := 0) rfl (fun ob u e => by cases e), ?_⟩
    rw [take_succ_get hx, List.foldl_append]
    exact Ens.put (Ens.up (l4.trans (l6.trans (l7.trans l8))) hacc) hw'
  · have ei : i = xs.length := by omega
    subst ei
    refine .inl ⟨hwi.2 (Nat.le_refl _), ?_⟩
    rw [List.take_length] at hacc
    exact k D acc F' H' (l2.trans l3) (S3.sub (List.Sublist.cons_cons _ (List.sublist_append_left cs1 pre))) hacc
theorem ge_dc {xs : List α} (gk : α → Int) (gv : α → β) [s : Stable r] [z : Stable t] (hc : X.calm = true) (hN : X.N.Nodup) (ok : BlkOk X.N X.env.scope scope own) (hi : GIt X σ F cs c0 tg iter r xs) (hsub : Sub c0 cs)
    (hb : ∀ (s : Shared) (H0 : Hp) (C : Addr) (cl : List (Str × Addr)) (fp : List Addr), GB (X.blk s H0 scope (compEnvC scope cl C X.env) fp) tg r B is) (his : ∀ i ∈ is, i ∈ own.map (·.2))
    (hk : ∀ (F1 : Hp) (v : V) (x : α) (σ1 : Sl), Le1 F F1 → x ∈ xs → B F1 v x (wipe σ (own.map (·.2))) σ1 → ∀ (s : Shared) (H0 : Hp) (C : Addr) (cl : List (Str × Addr)) (fp : List Addr), GE (X.blk s H0 scope (compEnvC scope cl C X.env) fp) σ1 F1 cs kx rI (gk x))
    (he : ∀ (F1 : Hp) (v : V) (x : α) (σ1 : Sl), Le1 F F1 → x ∈ xs → B F1 v x (wipe σ (own.map (·.2))) σ1 → ∀ (s : Shared) (H0 : Hp) (C : Addr) (cl : List (Str × Addr)) (fp : List Addr), GE (X.blk s H0 scope (compEnvC scope cl C X.env) fp) σ1 F1 cs vx (fz t) (gv x))
    (hz : xs.length ≤ sizeLine) (hs : ∀ x, foldedSetIterable iter X.env x = pure x := by intro _; rfl) : GE X σ F cs (.DictComp kx vx [⟨tg, iter, [], 0⟩] scope pos) (fz (rD t)) (xs.foldl (fun d x => put d (gk x) (gv x)) []) := fun F1 cs1 H Q l u S k =>
  weB (pe_dc hc hN piW ok bpg bpt bpe bpe hs) (tdc_core gk gv hi hsub hb his hk he hz l u S fun D acc F2 H2 => frz_dct k D acc F2)
end lc
end DL

-- part DLe
/-! DL, fifth part: statements, cells, loops, calls. -/
namespace DL
open PySem PySem.Spec PyProof.Rows L2

section
variable {X : Cx} {σ : Sl} {F F0 : Hp} {cs cs0 : Cs} {H : Hp} {e a b c o tg iter : Expr} {pos : Pos} {α β γ : Type} {r : Rep α} {t : Rep β} {x : α} {y : β} {i j : Int} {p q : Bool} {D : Ends} {Q : VK}

/-! ### new cells -/
theorem we_nilC (S : Sta F cs H) (k : ∀ d H2, Sta F ((d, .lst []) :: cs) H2 → Q (.ref d) H2) : WE X (.List [] pos) σ H Q :=
  weB (pe_lst pa_nil) ⟨Nat.zero_le _, fun d hd => k d _ (S.cell hd _)⟩
theorem we_dnilC (S : Sta F cs H) (k : ∀ d H2, Sta F ((d, .dK []) :: cs) H2 → Q (.ref d) H2) : WE X (.Dict [] [] pos) σ H Q :=
  weB pe_dnewK fun d hd => k d _ (S.cell hd _)
theorem we_lstC {es : List Expr} {xs : List α} (h : GAs X σ F cs es r xs) (S : Sta F cs H) (hl : xs.length ≤ 1000) (k : ∀ d vs F2 H2, Le1 F F2 → Sta F2 ((d, .lst vs) :: cs) H2 → Els r F2 vs xs → Q (.ref d) H2) : WE X (.List es pos) σ H Q :=
  weB (pe_lst paW) (h F cs H _ (Le.refl _) (Sub.refl _) S fun vs F2 H2 l S2 q => ⟨by rw [Els.len q]; exact Nat.le_trans hl (by decide), fun d hd => k d vs F2 _ l.one (S2.cell hd _) q⟩)
theorem we_listQC {pp : Pos} {xs : List α} (hg : Gl X "list") (hm : X.mg "list" = none) (ha : GE X σ F cs a (rQ r) xs) (S : Sta F cs H) (k : ∀ d vs F2 H2, Le1 F F2 → Sta F2 ((d, .lst vs) :: cs) H2 → Els r F2 vs xs → Q (.ref d) H2)
    (he : starEach [a] X.env = (false, eval a X.env) :: starEach [] X.env := by rfl) (hpl : (backTo pos (starEach [] X.env)).any (·.1) = false := by rfl) : WE X (.Call (.Name "list" pp) [a] [] pos) σ H Q :=
  weB (pe_callTy call_list_of hg hm boot_listT (pa_cons peW pa_nil he) (by decide) (by decide) he hpl) (ha F cs H _ (Le.refl _) (Sub.refl _) S fun v F2 H2 l S2 h => by
    rcases h with ⟨w, vs, e, h, hp⟩ | ⟨w, vs, e, h, hp⟩
    · exact ⟨w, vs, by rw [e], .inl (S2.sqL h), fun d hd => k d vs F2 _ l.one (S2.cell hd _) hp⟩
    · exact ⟨w, vs, by rw [e], .inr (S2.sqT h), fun d hd => k d vs F2 _ l.one (S2.cell hd _) hp⟩)
theorem we_listC [Stable r] {pp : Pos} {xs : List α} (hg : Gl X "list") (hm : X.mg "list" = none) (ha : GE X σ F cs a (rL r) xs) (S : Sta F cs H) (k : ∀ d vs F2 H2, Le1 F F2 → Sta F2 ((d, .lst vs) :: cs) H2 → Els r F2 vs xs → Q (.ref d) H2)
    (he : starEach [a] X.env = (false, eval a X.env) :: starEach [] X.env := by rfl) (hpl : (backTo pos (starEach [] X.env)).any (·.1) = false := by rfl) : WE X (.Call (.Name "list" pp) [a] [] pos) σ H Q := we_listQC hg hm (GE.asQ ha) S k he hpl
theorem we_dictC {pp : Pos} {xs : List (Int × α)} (hg : Gl X "dict") (hm : X.mg "dict" = none) (ha : GE X σ F cs a (rD r) xs) (S : Sta F cs H) (k : ∀ d kvs F2 H2, Le1 F F2 → Sta F2 ((d, .dK kvs) :: cs) H2 → Ens r F2 kvs xs → Q (.ref d) H2)
    (he : starEach [a] X.env = (false, eval a X.env) :: starEach [] X.env := by rfl) (hpl : (backTo pos (starEach [] X.env)).any (·.1) = false := by rfl) : WE X (.Call (.Name "dict" pp) [a] [] pos) σ H Q :=
  weB (pe_callTy call_dictD hg hm boot_dictT (pa_cons peW pa_nil he) (by decide) (by decide) he hpl) (ha F cs H _ (Le.refl _) (Sub.refl _) S fun v F2 H2 l S2 ⟨w, kvs, e, h, hp⟩ => ⟨w, kvs, by rw [e], S2.rdD h, fun d hd => k d kvs F2 _ l.one (S2.cell hd _) hp⟩)

/-! ### changes of cells -/
theorem sta_lst {n : Nat} {w : Addr} {vs : List V} (S : Sta F cs H) (h : cs[n]? = some (w, .lst vs)) : H w = some (.lst vs) := S.has _ (List.mem_of_getElem? h)
theorem sta_dct {n : Nat} {w : Addr} {vs : List (Key × V)} (S : Sta F cs H) (h : cs[n]? = some (w, .dK vs)) : H w = some (.dK vs) := S.has _ (List.mem_of_getElem? h)
theorem nfL {vs : List V} : ∀ (ob : Obj) (u : HO), (HO.lst vs) = .frz ob u → ¬ isDct u := fun ob u e => by cases e
theorem nfD {vs : List (Key × V)} : ∀ (ob : Obj) (u : HO), (HO.dK vs) = .frz ob u → ¬ isDct u := fun ob u e => by cases e
/-- o.append(e), o giving a list's address; by what is known at each point -/
theorem we_appendW {ap : Pos} {w : Addr} (ho : WE X o σ H fun v H1 => v = .ref w ∧ (∃ vs, H1 w = some (.lst vs)) ∧ WE X e σ H1 fun v H2 => ∃ vs, H2 w = some (.lst vs) ∧ vs.length < sizeLine ∧ Q .non (upd H2 w (.lst (vs ++ [v]))))
    (hbase : attributeBase o "append" X.env (eval o X.env) = eval o X.env := by rfl)
    (hfew : ((backTo pos (starEach [e] X.env)).all (fun x => !x.1) && (backToKw pos (keywordEach [] X.env)).all (fun x => x.1.isSome) && decide (([e] : List Expr).length + ([] : List Keyword).length + (if ([] : List Keyword).isEmpty then 0 else 1) < 30)) = true := by rfl)
    (hline : (ap.endLine == pos.line) = true := by rfl) (hs : starEach [e] X.env = (false, eval e X.env) :: starEach [] X.env := by rfl) (hplain : (backTo pos (starEach [] X.env)).any (·.1) = false := by rfl) : WE X (.Call (.Attribute o "append" ap) [e] [] pos) σ H Q :=
  weB (pe_bm PySem.F.plainAttrs_list PySem.F.slot_list_append PySem.F.type_list_append mt_append peW (pa_cons peW pa_nil hs) hbase hfew hline hs hplain)
    (ho.mono fun v H1 ⟨ev, ⟨vs, hv⟩, h2⟩ => ⟨by rw [ev]; exact .inl ⟨rfl, vs, SqL.of hv⟩, h2.mono fun u H2 ⟨ws, hw, hl, q⟩ => ⟨w, ws, u, ev, rfl, hw, hl, q⟩⟩)
/-- .. a name that holds the n-th cell, a datum -/
theorem we_append {ap p2 : Pos} {z : Str} {m : Nat} {w : Addr} {vs : List V} (n : Nat) (hN : X.N[m]? = some z) (hσ : σ[m]? = some (some (.ref w))) (S : Sta F cs H) (hw : cs[n]? = some (w, .lst vs)) (he : GE X σ F cs e (fz r) x) (hl : vs.length < sizeLine)
    (k : ∀ v F2 H2, Le1 F F2 → Sta F2 (cs.set n (w, .lst (vs ++ [v]))) H2 → Is r F2 [] v x → Q .non H2)
    (hv : Vis X.env.scope z := by first | exact Or.inl rfl | exact Or.inr (Or.inl rfl) | exact Or.inr (Or.inr rfl)) (hd : (z == ("__debug__" : Str)) = false := by decide) (hcd : (z == ("__classdict__" : Str)) = false := by decide)
    (hbase : attributeBase (.Name z p2) "append" X.env (eval (.Name z p2) X.env) = eval (.Name z p2) X.env := by rfl)
    (hfew : ((backTo pos (starEach [e] X.env)).all (fun x => !x.1) && (backToKw pos (keywordEach [] X.env)).all (fun x => x.1.isSome) && decide (([e] : List Expr).length + ([] : List Keyword).length + (if ([] : List Keyword).isEmpty then 0 else 1) < 30)) = true := by rfl)
    (hline : (ap.endLine == pos.line) = true := by rfl) (hs : starEach [e] X.env = (false, eval e X.env) :: starEach [] X.env := by rfl) (hplain : (backTo pos (starEach [] X.env)).any (·.1) = false := by rfl) : WE X (.Call (.Attribute (.Name z p2) "append" ap) [e] [] pos) σ H Q :=
  we_appendW (w := w) (weB (pe_var hN hv hd hcd) ⟨_, hσ, rfl, ⟨vs, sta_lst S hw⟩, he F cs H _ (Le.refl _) (Sub.refl _) S fun v F2 H2 l S2 q => ⟨vs, sta_lst S2 hw, hl, k v F2 _ l.one (S2.set hw nfL) ⟨q⟩⟩⟩) hbase hfew hline hs hplain
/-- o.extend(e) -/
theorem we_extend {xs : List α} {ap p2 : Pos} {z : Str} {m : Nat} {w : Addr} {vs : List V} (n : Nat) (hN : X.N[m]? = some z) (hσ : σ[m]? = some (some (.ref w))) (S : Sta F cs H) (hw : cs[n]? = some (w, .lst vs)) (he : GE X σ F cs e (rL r) xs) (hl : vs.length + xs.length ≤ sizeLine)
    (k : ∀ ws F2 H2, Le1 F F2 → Sta F2 (cs.set n (w, .lst (vs ++ ws))) H2 → Els r F2 ws xs → Q .non H2)
    (hv : Vis X.env.scope z := by first | exact Or.inl rfl | exact Or.inr (Or.inl rfl) | exact Or.inr (Or.inr rfl)) (hd : (z == ("__debug__" : Str)) = false := by decide) (hcd : (z == ("__classdict__" : Str)) = false := by decide)
    (hbase : attributeBase (.Name z p2) "extend" X.env (eval (.Name z p2) X.env) = eval (.Name z p2) X.env := by rfl)
    (hfew : ((backTo pos (starEach [e] X.env)).all (fun x => !x.1) && (backToKw pos (keywordEach [] X.env)).all (fun x => x.1.isSome) && decide (([e] : List Expr).length + ([] : List Keyword).length + (if ([] : List Keyword).isEmpty then 0 else 1) < 30)) = true := by rfl)
    (hline : (ap.endLine == pos.line) = true := by rfl) (hs : starEach [e] X.env = (false, eval e X.env) :: starEach [] X.env := by rfl) (hplain : (backTo pos (starEach [] X.env)).any (·.1) = false := by rfl) : WE X (.Call (.Attribute (.Name z p2) "extend" ap) [e] [] pos) σ H Q :=
  weB (pe_bm PySem.F.plainAttrs_list PySem.F.slot_list_extend PySem.F.type_list_extend mt_extend (pe_var hN hv hd hcd) (pa_cons peW pa_nil hs) hbase hfew hline hs hplain)
    ⟨_, hσ, .inl ⟨rfl, vs, SqL.of (sta_lst S hw)⟩, he F cs H _ (Le.refl _) (Sub.refl _) S fun v F2 H2 l S2 ⟨d, ws, ev, hd, hp⟩ =>
      ⟨w, d, vs, ws, rfl, by rw [ev], sta_lst S2 hw, S2.rd hd, by rw [Els.len hp]; exact hl, k ws F2 _ l.one (S2.set hw nfL) hp⟩⟩
/-- o.pop(e) -/
theorem we_popW {ap p2 : Pos} {z : Str} {m : Nat} {w : Addr} (hN : X.N[m]? = some z) (hσ : σ[m]? = some (some (.ref w))) (h0 : ∃ vs, H w = some (.lst vs))
    (he : WE X e σ H fun v H2 => ∃ vs i k y, v = .int i ∧ H2 w = some (.lst vs) ∧ -(2 ^ 63) ≤ i ∧ i < 2 ^ 63 ∧ seqIndex? i vs.length = some k ∧ vs[k]? = some y ∧ Q y (upd H2 w (.lst (vs.eraseIdx k))))
    (hv : Vis X.env.scope z := by first | exact Or.inl rfl | exact Or.inr (Or.inl rfl) | exact Or.inr (Or.inr rfl)) (hd : (z == ("__debug__" : Str)) = false := by decide) (hcd : (z == ("__classdict__" : Str)) = false := by decide)
    (hbase : attributeBase (.Name z p2) "pop" X.env (eval (.Name z p2) X.env) = eval (.Name z p2) X.env := by rfl)
    (hfew : ((backTo pos (starEach [e] X.env)).all (fun x => !x.1) && (backToKw pos (keywordEach [] X.env)).all (fun x => x.1.isSome) && decide (([e] : List Expr).length + ([] : List Keyword).length + (if ([] : List Keyword).isEmpty then 0 else 1) < 30)) = true := by rfl)
    (hline : (ap.endLine == pos.line) = true := by rfl) (hs : starEach [e] X.env = (false, eval e X.env) :: starEach [] X.env := by rfl) (hplain : (backTo pos (starEach [] X.env)).any (·.1) = false := by rfl) : WE X (.Call (.Attribute (.Name z p2) "pop" ap) [e] [] pos) σ H Q :=
  weB (pe_bm PySem.F.plainAttrs_list PySem.F.slot_list_pop PySem.F.type_list_pop mt_popAt (pe_var hN hv hd hcd) (pa_cons peW pa_nil hs) hbase hfew hline hs hplain)
    ⟨_, hσ, .inl ⟨rfl, h0.choose, SqL.of h0.choose_spec⟩, he.mono fun v H2 ⟨vs, i, k, y, ev, hw, b1, b2, hk, hy, q⟩ => ⟨w, vs, i, k, y, rfl, by rw [ev], hw, b1, b2, hk, hy, q⟩⟩
/-- o.pop(0) -/
theorem we_pop0 {ap p2 p3 : Pos} {z : Str} {m u : Nat} {w : Addr} {v : V} {vs : List V} (n : Nat) (hN : X.N[m]? = some z) (hσ : σ[m]? = some (some (.ref w))) (S : Sta F cs H) (hw : cs[n]? = some (w, .lst (v :: vs)))
    (k : ∀ H2, Sta F (cs.set n (w, .lst vs)) H2 → Q v H2)
    (hv : Vis X.env.scope z := by first | exact Or.inl rfl | exact Or.inr (Or.inl rfl) | exact Or.inr (Or.inr rfl)) (hd : (z == ("__debug__" : Str)) = false := by decide) (hcd : (z == ("__classdict__" : Str)) = false := by decide)
    (hbase : attributeBase (.Name z p2) "pop" X.env (eval (.Name z p2) X.env) = eval (.Name z p2) X.env := by rfl)
    (hfew : ((backTo pos (starEach [.Constant (.int 0) u p3] X.env)).all (fun x => !x.1) && (backToKw pos (keywordEach [] X.env)).all (fun x => x.1.isSome) && decide (([.Constant (.int 0) u p3] : List Expr).length + ([] : List Keyword).length + (if ([] : List Keyword).isEmpty then 0 else 1) < 30)) = true := by rfl)
    (hline : (ap.endLine == pos.line) = true := by rfl) (hs : starEach [.Constant (.int 0) u p3] X.env = (false, eval (.Constant (.int 0) u p3) X.env) :: starEach [] X.env := by rfl) (hplain : (backTo pos (starEach [] X.env)).any (·.1) = false := by rfl) :
    WE X (.Call (.Attribute (.Name z p2) "pop" ap) [.Constant (.int 0) u p3] [] pos) σ H Q :=
  we_popW hN hσ ⟨_, sta_lst S hw⟩ (weB pe_int ⟨v :: vs, 0, 0, v, rfl, sta_lst S hw, by decide, by decide, by
    unfold seqIndex?
    have h1 : (0 : Int) < ((v :: vs).length : Int) := by rw [List.length_cons]; omega
    simp only [show ¬ ((0 : Int) < 0) by decide, if_false, h1, decide_true, Bool.true_and, if_true]
    rfl, rfl, k _ (S.set hw nfL)⟩) hv hd hcd hbase hfew hline hs hplain

/-! ### statements -/
theorem ws_expr (h : WE X e σ H fun _ H1 => D.nx σ H1) (hs : swapsWith e none pos.line X.env = pure false := by rfl) : WS X (.Expr e pos) D σ H := wsB (ps_expr peW hs) h
theorem ws_retW (h : WE X e σ H D.rt) : WS X (.Return (some e) pos) D σ H := wsB (ps_ret peW) h
theorem ws_ret (h : GE X σ F cs e r x) (S : Sta F cs H) (k : ∀ v F2 H2, Le1 F F2 → Sta F2 cs H2 → Is r F2 cs v x → D.rt v H2) : WS X (.Return (some e) pos) D σ H := ws_retW (h.run S k)
theorem ws_retB (h : GE X σ F cs e rB p) (S : Sta F cs H) (k : ∀ H2, Sta F cs H2 → D.rt (.bl p) H2) : WS X (.Return (some e) pos) D σ H := ws_retW (h.runB S k)
theorem ws_retI (h : GE X σ F cs e rI i) (S : Sta F cs H) (k : ∀ H2, Sta F cs H2 → D.rt (.int i) H2) : WS X (.Return (some e) pos) D σ H := ws_retW (h.runI S k)
theorem ws_if {A B : List Stmt} (h : GT X σ F cs c p) (S : Sta F cs H) (ht : p = true → ∀ H2, Sta F cs H2 → WSs X A D σ H2) (hf : p = false → ∀ H2, Sta F cs H2 → WSs X B D σ H2) : WS X (.If c A B pos) D σ H :=
  wsB (ps_if ptW pssW pssW) (h.run S fun H2 S2 => by
    cases p with
    | true => rw [if_pos rfl]; exact ht rfl H2 S2
    | false => rw [if_neg Bool.false_ne_true]; exact hf rfl H2 S2)
/-- the test is known -/
theorem ws_ifT {A B : List Stmt} (h : GT X σ F cs c true) (S : Sta F cs H) (ht : ∀ H2, Sta F cs H2 → WSs X A D σ H2) : WS X (.If c A B pos) D σ H := ws_if h S (fun _ => ht) (fun e => nomatch e)
theorem ws_ifF {A B : List Stmt} (h : GT X σ F cs c false) (S : Sta F cs H) (hf : ∀ H2, Sta F cs H2 → WSs X B D σ H2) : WS X (.If c A B pos) D σ H := ws_if h S (fun e => nomatch e) (fun _ => hf)
theorem ws_ifW {A B : List Stmt} (h : WT X c σ H fun b H1 => if b = true then WSs X A D σ H1 else WSs X B D σ H1) : WS X (.If c A B pos) D σ H := wsB (ps_if ptW pssW pssW) h
/-- name = e -/
theorem ws_setW {n : Nat} {z : Str} {p2 : Pos} (hN : X.N.Nodup) (hi : X.N[n]? = some z) (hx : Loc X.env.scope z) (h : WE X e σ H fun v H1 => D.nx (σ.set n (some v)) H1) (hs : swapsWithSole [.Name z p2] e pos.line X.env = pure false := by rfl) (hw : swappedStores [.Name z p2] e X.env = pure none := by rfl)
    (h1 : (assignEach [.Name z p2] X.env).map (·.2) = [assign (.Name z p2) X.env] := by rfl) (hf : X.fn z = true ∨ X.env.scope.names.lookup z = some .local := by first | exact .inl rfl | exact .inr rfl | assumption) : WS X (.Assign [.Name z p2] e pos) D σ H :=
  wsB (ps_asg peW (pg_name hN hi hx hf) hs hw h1) h
theorem ws_set {n : Nat} {z : Str} {p2 : Pos} (hN : X.N.Nodup) (hi : X.N[n]? = some z) (hx : Loc X.env.scope z) (h : GE X σ F cs e r x) (S : Sta F cs H) (k : ∀ v F2 H2, Le1 F F2 → Sta F2 cs H2 → Is r F2 cs v x → D.nx (σ.set n (some v)) H2) (hs : swapsWithSole [.Name z p2] e pos.line X.env = pure false := by rfl) (hw : swappedStores [.Name z p2] e X.env = pure none := by rfl)
    (h1 : (assignEach [.Name z p2] X.env).map (·.2) = [assign (.Name z p2) X.env] := by rfl) (hf : X.fn z = true ∨ X.env.scope.names.lookup z = some .local := by first | exact .inl rfl | exact .inr rfl | assumption) : WS X (.Assign [.Name z p2] e pos) D σ H :=
  ws_setW hN hi hx (h.run S k) hs hw h1 hf
theorem ws_setI {n : Nat} {z : Str} {p2 : Pos} (hN : X.N.Nodup) (hi : X.N[n]? = some z) (hx : Loc X.env.scope z) (h : GE X σ F cs e rI i) (S : Sta F cs H) (k : ∀ H2, Sta F cs H2 → D.nx (σ.set n (some (.int i))) H2) (hs : swapsWithSole [.Name z p2] e pos.line X.env = pure false := by rfl) (hw : swappedStores [.Name z p2] e X.env = pure none := by rfl)
    (h1 : (assignEach [.Name z p2] X.env).map (·.2) = [assign (.Name z p2) X.env] := by rfl) (hf : X.fn z = true ∨ X.env.scope.names.lookup z = some .local := by first | exact .inl rfl | exact .inr rfl | assumption) : WS X (.Assign [.Name z p2] e pos) D σ H :=
  ws_setW hN hi hx (h.runI S k) hs hw h1 hf
theorem ws_setB {n : Nat} {z : Str} {p2 : Pos} (hN : X.N.Nodup) (hi : X.N[n]? = some z) (hx : Loc X.env.scope z) (h : GE X σ F cs e rB p) (S : Sta F cs H) (k : ∀ H2, Sta F cs H2 → D.nx (σ.set n (some (.bl p))) H2) (hs : swapsWithSole [.Name z p2] e pos.line X.env = pure false := by rfl) (hw : swappedStores [.Name z p2] e X.env = pure none := by rfl)
    (h1 : (assignEach [.Name z p2] X.env).map (·.2) = [assign (.Name z p2) X.env] := by rfl) (hf : X.fn z = true ∨ X.env.scope.names.lookup z = some .local := by first | exact .inl rfl | exact .inr rfl | assumption) : WS X (.Assign [.Name z p2] e pos) D σ H :=
  ws_setW hN hi hx (h.runB S k) hs hw h1 hf
/-- a, b = e, f: both plain locals -/
theorem ws_par {n m : Nat} {z1 z2 : Str} {p1 p2 p3 p4 : Pos} {k1 k2 : Nat} (hc : X.calm = true) (hN : X.N.Nodup) (hi : X.N[n]? = some z1) (hj : X.N[m]? = some z2) (hij : n ≠ m) (hx : X.env.scope.names.lookup z1 = some .local) (hy : X.env.scope.names.lookup z2 = some .local)
    (h : WE X a σ H fun v H1 => WE X b σ H1 fun w H2 => D.nx ((σ.set n (some v)).set m (some w)) H2)
    (hw : swappedStores [.Tuple [.Name z1 p1, .Name z2 p2] k1 p3] (.Tuple [a, b] k2 p4) X.env = pure (some [z1, z2]) := by rfl)
    (hs : swapsWithSole [.Tuple [.Name z1 p1, .Name z2 p2] k1 p3] (.Tuple [a, b] k2 p4) pos.line X.env = pure false := by rfl)
    (he : starEach [a, b] X.env = (false, eval a X.env) :: starEach [b] X.env := by rfl) (he2 : starEach [b] X.env = (false, eval b X.env) :: starEach [] X.env := by rfl) :
    WS X (.Assign [.Tuple [.Name z1 p1, .Name z2 p2] k1 p3] (.Tuple [a, b] k2 p4) pos) D σ H :=
  wsB (ps_par hc hN hi hj hij hx hy (pa_cons peW (pa_cons peW pa_nil he2) he) hw hs) (h.mono fun v H1 q => q.mono fun w H2 q => ⟨v, w, rfl, q⟩)
theorem ws_par3 {n m l : Nat} {z1 z2 z3 : Str} {p1 p2 p3 p4 p5 : Pos} {k1 k2 : Nat} (hc : X.calm = true) (hN : X.N.Nodup) (hi : X.N[n]? = some z1) (hj : X.N[m]? = some z2) (hl : X.N[l]? = some z3) (hij : n ≠ m) (hil : n ≠ l) (hjl : m ≠ l) (hx : X.env.scope.names.lookup z1 = some .local) (hy : X.env.scope.names.lookup z2 = some .local) (hz : X.env.scope.names.lookup z3 = some .local)
    (h : WE X a σ H fun v H1 => WE X b σ H1 fun w H2 => WE X c σ H2 fun u H3 => D.nx (((σ.set n (some v)).set m (some w)).set l (some u)) H3)
    (hw : swappedStores [.Tuple [.Name z1 p1, .Name z2 p2, .Name z3 p5] k1 p3] (.Tuple [a, b, c] k2 p4) X.env = pure (some [z1, z2, z3]) := by rfl)
    (hs : swapsWithSole [.Tuple [.Name z1 p1, .Name z2 p2, .Name z3 p5] k1 p3] (.Tuple [a, b, c] k2 p4) pos.line X.env = pure false := by rfl)
    (he : starEach [a, b, c] X.env = (false, eval a X.env) :: starEach [b, c] X.env := by rfl) (he2 : starEach [b, c] X.env = (false, eval b X.env) :: starEach [c] X.env := by rfl) (he3 : starEach [c] X.env = (false, eval c X.env) :: starEach [] X.env := by rfl) :
    WS X (.Assign [.Tuple [.Name z1 p1, .Name z2 p2, .Name z3 p5] k1 p3] (.Tuple [a, b, c] k2 p4) pos) D σ H :=
  wsB (ps_par3 hc hN hi hj hl hij hil hjl hx hy hz (pa_cons peW (pa_cons peW (pa_cons peW pa_nil he3) he2) he) hw hs) (h.mono fun v H1 q => q.mono fun w H2 q => q.mono fun u H3 q => ⟨v, w, u, rfl, q⟩)
/-- a, b = e, f through a pair (a name is a cell of the def) -/
theorem ws_parT {n m : Nat} {z1 z2 : Str} {p1 p2 p3 p4 : Pos} {k1 k2 : Nat} (hc : X.calm = true) (hN : X.N.Nodup) (hi : X.N[n]? = some z1) (hj : X.N[m]? = some z2) (hx : Loc X.env.scope z1) (hy : Loc X.env.scope z2)
    (h : WE X a σ H fun v H1 => WE X b σ H1 fun w H2 => ∀ d, H2 d = none → D.nx ((σ.set n (some v)).set m (some w)) (upd H2 d (.tup [v, w])))
    (hw : swappedStores [.Tuple [.Name z1 p1, .Name z2 p2] k1 p3] (.Tuple [a, b] k2 p4) X.env = pure none := by rfl)
    (hs : swapsWithSole [.Tuple [.Name z1 p1, .Name z2 p2] k1 p3] (.Tuple [a, b] k2 p4) pos.line X.env = pure false := by rfl)
    (hf1 : X.fn z1 = true ∨ X.env.scope.names.lookup z1 = some .local := by first | exact .inl rfl | exact .inr rfl | assumption) (hf2 : X.fn z2 = true ∨ X.env.scope.names.lookup z2 = some .local := by first | exact .inl rfl | exact .inr rfl | assumption)
    (he : starEach [a, b] X.env = (false, eval a X.env) :: starEach [b] X.env := by rfl) (he2 : starEach [b] X.env = (false, eval b X.env) :: starEach [] X.env := by rfl)
    (h1 : (assignEach [.Tuple [.Name z1 p1, .Name z2 p2] k1 p3] X.env).map (·.2) = [assign (.Tuple [.Name z1 p1, .Name z2 p2] k1 p3) X.env] := by rfl)
    (hs1 : (assignEach [.Name z1 p1, .Name z2 p2] X.env).map (·.2) = assign (.Name z1 p1) X.env :: (assignEach [.Name z2 p2] X.env).map (·.2) := by rfl) (hs2 : (assignEach [.Name z2 p2] X.env).map (·.2) = assign (.Name z2 p2) X.env :: (assignEach [] X.env).map (·.2) := by rfl)
    (hn : (assignEach [.Name z1 p1, .Name z2 p2] X.env).length = 2 := by rfl) (hst : (assignEach [.Name z1 p1, .Name z2 p2] X.env).findIdx? (·.1) = none := by rfl) :
    WS X (.Assign [.Tuple [.Name z1 p1, .Name z2 p2] k1 p3] (.Tuple [a, b] k2 p4) pos) D σ H :=
  wsB (ps_asg (pe_tup (pa_cons peW (pa_cons peW pa_nil he2) he)) (pg_tup hc (pgs_cons (pg_name hN hi hx hf1) (pgs_cons (pg_name hN hj hy hf2) pgs_nil hs2) hs1) hn hst) hs hw h1)
    (h.mono fun v H1 q => q.mono fun w H2 q => ⟨by show 2 ≤ sizeLine; decide, fun d hd => ⟨d, _, rfl, .inl (.inl upd_same), rfl, v, _, rfl, w, _, rfl, rfl, q d hd⟩⟩)
theorem ws_parT3 {n m l : Nat} {z1 z2 z3 : Str} {p1 p2 p3 p4 p5 : Pos} {k1 k2 : Nat} (hc : X.calm = true) (hN : X.N.Nodup) (hi : X.N[n]? = some z1) (hj : X.N[m]? = some z2) (hl : X.N[l]? = some z3) (hx : Loc X.env.scope z1) (hy : Loc X.env.scope z2) (hz : Loc X.env.scope z3)
    (h : WE X a σ H fun v H1 => WE X b σ H1 fun w H2 => WE X c σ H2 fun u H3 => ∀ d, H3 d = none → D.nx (((σ.set n (some v)).set m (some w)).set l (some u)) (upd H3 d (.tup [v, w, u])))
    (hw : swappedStores [.Tuple [.Name z1 p1, .Name z2 p2, .Name z3 p5] k1 p3] (.Tuple [a, b, c] k2 p4) X.env = pure none := by rfl)
    (hs : swapsWithSole [.Tuple [.Name z1 p1, .Name z2 p2, .Name z3 p5] k1 p3] (.Tuple [a, b, c] k2 p4) pos.line X.env = pure false := by rfl)
    (hf1 : X.fn z1 = true ∨ X.env.scope.names.lookup z1 = some .local := by first | exact .inl rfl | exact .inr rfl | assumption) (hf2 : X.fn z2 = true ∨ X.env.scope.names.lookup z2 = some .local := by first | exact .inl rfl | exact .inr rfl | assumption) (hf3 : X.fn z3 = true ∨ X.env.scope.names.lookup z3 = some .local := by first | exact .inl rfl | exact .inr rfl | assumption)
    (he : starEach [a, b, c] X.env = (false, eval a X.env) :: starEach [b, c] X.env := by rfl) (he2 : starEach [b, c] X.env = (false, eval b X.env) :: starEach [c] X.env := by rfl) (he3 : starEach [c] X.env = (false, eval c X.env) :: starEach [] X.env := by rfl)
    (h1 : (assignEach [.Tuple [.Name z1 p1, .Name z2 p2, .Name z3 p5] k1 p3] X.env).map (·.2) = [assign (.Tuple [.Name z1 p1, .Name z2 p2, .Name z3 p5] k1 p3) X.env] := by rfl)
    (hs1 : (assignEach [.Name z1 p1, .Name z2 p2, .Name z3 p5] X.env).map (·.2) = assign (.Name z1 p1) X.env :: (assignEach [.Name z2 p2, .Name z3 p5] X.env).map (·.2) := by rfl) (hs2 : (assignEach [.Name z2 p2, .Name z3 p5] X.env).map (·.2) = assign (.Name z2 p2) X.env :: (assignEach [.Name z3 p5] X.env).map (·.2) := by rfl)
    (hs3 : (assignEach [.Name z3 p5] X.env).map (·.2) = assign (.Name z3 p5) X.env :: (assignEach [] X.env).map (·.2) := by rfl)
    (hn : (assignEach [.Name z1 p1, .Name z2 p2, .Name z3 p5] X.env).length = 3 := by rfl) (hst : (assignEach [.Name z1 p1, .Name z2 p2, .Name z3 p5] X.env).findIdx? (·.1) = none := by rfl) :
    WS X (.Assign [.Tuple [.Name z1 p1, .Name z2 p2, .Name z3 p5] k1 p3] (.Tuple [a, b, c] k2 p4) pos) D σ H :=
  wsB (ps_asg (pe_tup (pa_cons peW (pa_cons peW (pa_cons peW pa_nil he3) he2) he)) (pg_tup hc (pgs_cons (pg_name hN hi hx hf1) (pgs_cons (pg_name hN hj hy hf2) (pgs_cons (pg_name hN hl hz hf3) pgs_nil hs3) hs2) hs1) hn hst) hs hw h1)
    (h.mono fun v H1 q => q.mono fun w H2 q => q.mono fun u H3 q => ⟨by show 3 ≤ sizeLine; decide, fun d hd => ⟨d, _, rfl, .inl (.inl upd_same), rfl, v, _, rfl, w, _, rfl, u, _, rfl, rfl, q d hd⟩⟩)
/-- target = e, by the target's binding -/
theorem ws_asgT {B : Hp → V → α → Sl → Sl → Prop} {is : List Nat} [Stable r] (hb : GB X tg r B is) (h : GE X σ F cs e (fz r) x) (S : Sta F cs H) (k : ∀ v F2 H2 σ', Le1 F F2 → Sta F2 cs H2 → B F2 v x σ σ' → D.nx σ' H2) (hs : swapsWithSole [tg] e pos.line X.env = pure false := by rfl) (hw : swappedStores [tg] e X.env = pure none := by rfl)
    (h1 : (assignEach [tg] X.env).map (·.2) = [assign tg X.env] := by rfl) : WS X (.Assign [tg] e pos) D σ H :=
  wsB (ps_asg peW pgW hs hw h1) (h F cs H _ (Le.refl _) (Sub.refl _) S fun v F2 H2 l S2 q => hb.run F2 cs H2 v x σ _ S2 q fun σ' b => k v F2 H2 σ' l.one S2 b)
/-- o[i] = e: a list in a cell -/
theorem ws_setItem {p2 p3 : Pos} {z : Str} {m k' : Nat} {w : Addr} {vs : List V} (n : Nat) (hN : X.N[m]? = some z) (hσ : σ[m]? = some (some (.ref w))) (S : Sta F cs H) (hw : cs[n]? = some (w, .lst vs)) (he : GE X σ F cs e (fz r) x) (hi : GE X σ F cs a rI i) (hk : ixN vs.length i = some k')
    (k : ∀ v F2 H2, Le1 F F2 → Sta F2 (cs.set n (w, .lst (vs.set k' v))) H2 → Is r F2 [] v x → D.nx σ H2) [s : Stable r]
    (hv : Vis X.env.scope z := by first | exact Or.inl rfl | exact Or.inr (Or.inl rfl) | exact Or.inr (Or.inr rfl)) (hd : (z == ("__debug__" : Str)) = false := by decide) (hcd : (z == ("__classdict__" : Str)) = false := by decide)
    (hs : swapsWithSole [.Subscript (.Name z p2) a p3] e pos.line X.env = pure false := by rfl) (hw2 : swappedStores [.Subscript (.Name z p2) a p3] e X.env = pure none := by rfl) (h1 : (assignEach [.Subscript (.Name z p2) a p3] X.env).map (·.2) = [assign (.Subscript (.Name z p2) a p3) X.env] := by rfl)
    (ha : ∀ v, assign (.Subscript (.Name z p2) a p3) X.env v = (do
      let ov ← holding [v] (eval (.Name z p2) X.env)
      let iv ← holding [v, ov] (eval a X.env)
      standAt p3
      holding [v, ov, iv] (setItem ov iv v)
      release [v, ov, iv] []) := by intro _; rfl) : WS X (.Assign [.Subscript (.Name z p2) a p3] e pos) D σ H :=
  wsB (ps_asg peW (pg_sub (pe_var hN hv hd hcd) peW set_list ha) hs hw2 h1) (he F cs H _ (Le.refl _) (Sub.refl _) S fun v F2 H2 l S2 q => ⟨_, hσ, hi F2 cs H2 _ l (Sub.refl _) S2 fun v2 F3 H3 l3 S3 e2 =>
    ⟨w, vs, i, k', rfl, e2, sta_lst S3 hw, hk, k v F3 _ (l.trans l3).one (S3.set hw nfL) ⟨s.up l3 (Sub.refl _) q⟩⟩⟩)
/-- o[i] = e: a dict in a cell, by its expression -/
theorem ws_dputW {p3 : Pos} (hu : X.A.units + 1 < cLine) (h : WE X e σ H fun v H1 => WE X o σ H1 fun x H2 => ∃ w, x = .ref w ∧ WE X a σ H2 fun y H3 => ∃ kvs i, y = .int i ∧ H3 w = some (.dK kvs) ∧ kvs.length < sizeLine ∧ D.nx σ (upd H3 w (.dK (putK kvs (.inl i) v))))
    (hs : swapsWith e (some (.Subscript o a p3)) pos.line X.env = pure false := by rfl) : WS X (.Assign [.Subscript o a p3] e pos) D σ H :=
  wsB (ps_dput hu peW peW peW hs) (h.mono fun v H1 q => q.mono fun x H2 ⟨w, ex, q⟩ => q.mono fun y H3 ⟨kvs, i, ey, hd, hl, q⟩ => ⟨w, _, ex, .inl ⟨kvs, .inl i, hd, ey, hl, rfl⟩, q⟩)
theorem ws_dput {p2 p3 : Pos} {z : Str} {m : Nat} {w : Addr} {kvs : List (Key × V)} (n : Nat) (hu : X.A.units + 1 < cLine) (hN : X.N[m]? = some z) (hσ : σ[m]? = some (some (.ref w))) (S : Sta F cs H) (hw : cs[n]? = some (w, .dK kvs)) (he : GE X σ F cs e (fz r) x) (hi : GE X σ F cs a rI i) (hl : kvs.length < sizeLine)
    (k : ∀ v F2 H2, Le1 F F2 → Sta F2 (cs.set n (w, .dK (putK kvs (.inl i) v))) H2 → Is r F2 [] v x → D.nx σ H2) [s : Stable r]
    (hv : Vis X.env.scope z := by first | exact Or.inl rfl | exact Or.inr (Or.inl rfl) | exact Or.inr (Or.inr rfl)) (hd : (z == ("__debug__" : Str)) = false := by decide) (hcd : (z == ("__classdict__" : Str)) = false := by decide)
    (hs : swapsWith e (some (.Subscript (.Name z p2) a p3)) pos.line X.env = pure false := by rfl) : WS X (.Assign [.Subscript (.Name z p2) a p3] e pos) D σ H :=
  ws_dputW hu (he F cs H _ (Le.refl _) (Sub.refl _) S fun v F2 H2 l S2 q => weB (pe_var hN hv hd hcd) ⟨_, hσ, w, rfl, hi F2 cs H2 _ l (Sub.refl _) S2 fun v2 F3 H3 l3 S3 e2 => ⟨kvs, i, e2, sta_dct S3 hw, hl, k v F3 _ (l.trans l3).one (S3.set hw nfD) ⟨s.up l3 (Sub.refl _) q⟩⟩⟩) hs

/-! ### loops -/
theorem WSs.mono {st : List Stmt} {D D' : Ends} (h : WSs X st D σ H) (h1 : ∀ s H, D.nx s H → D'.nx s H) (h2 : ∀ v H, D.rt v H → D'.rt v H) (h3 : ∀ s H, D.bk s H → D'.bk s H) (h4 : ∀ s H, D.ct s H → D'.ct s H) : WSs X st D' σ H := fun pins s I =>
  thn (h pins s I) fun f s' q => by
    cases f with
    | next => exact let ⟨a, b, c, d⟩ := q; ⟨a, b, c, h1 _ _ d⟩
    | ret u => exact let ⟨v, a, b, c, r, d⟩ := q; ⟨v, a, b, c, r, h2 _ _ d⟩
    | brk => exact let ⟨a, b, c, d⟩ := q; ⟨a, b, c, h3 _ _ d⟩
    | cont => exact let ⟨a, b, c, d⟩ := q; ⟨a, b, c, h4 _ _ d⟩
/-- for tg in iter: P by what is done, the frozen part, one's own cells, the slots; R: the other cells -/
theorem ws_for {xs : List α} {c0 own R : Cs} {B : Hp → V → α → Sl → Sl → Prop} {is : List Nat} {body : List Stmt} (P : List α → Hp → Cs → Sl → Prop) (hp : PassesOwn (model X.prog X.w) X.A X.env X.xe) (hc : X.calm = true)
    (hi : GIt X σ F (own ++ R) c0 tg iter r xs) (S : Sta F (own ++ R) H) (hb : GB X tg r B is) (hown : frzs own = [])
    (hP : ∀ pre F' own' σ' R', P pre F' own' σ' → Sub R R' → Sub c0 (own' ++ R'))
    (h0 : ∀ F2, Le1 F F2 → P [] F2 own σ)
    (turn : ∀ pre x post F' F'' own' σ' H' v σ1 R', xs = pre ++ x :: post → Le1 F F' → Le1 F' F'' → Sub R R' → List.Sublist R R' → Sta F'' (own' ++ R') H' → P pre F' own' σ' → B F'' v x σ' σ1 →
      WSs X body { D with nx := fun σ2 H2 => ∃ F2 own2, Le F'' F2 ∧ Sta F2 (own2 ++ R') H2 ∧ P (pre ++ [x]) F2 own2 σ2, ct := fun σ2 H2 => ∃ F2 own2, Le F'' F2 ∧ Sta F2 (own2 ++ R') H2 ∧ P (pre ++ [x]) F2 own2 σ2, bk := D.nx } σ1 H')
    (done : ∀ F' own' σ' H' R', Le1 F F' → Sub R R' → List.Sublist R R' → Sta F' (own' ++ R') H' → P xs F' own' σ' → D.nx σ' H') (hs : ∀ x, foldedSetIterable iter X.env x = pure x := by intro _; rfl) : WS X (.For tg iter body [] pos) D σ H := by
  refine wsB (ps_for hp hc piW pgW pssW hs) (hi F (own ++ R) H _ (Le.refl _) (Sub.refl _) S fun J pre c1 F2 H2 l2 S2 hsub hw => ?_)
  have S2' : Sta F2 (own ++ (R ++ pre)) H2 := by rw [← List.append_assoc]; exact S2
  have hRR : Sub R (R ++ pre) := ⟨fun q hq => List.mem_append_left _ hq⟩
  have hRl : List.Sublist R (R ++ pre) := List.sublist_append_left _ _
  have hc1 : ∀ ps F' own' σ', P ps F' own' σ' → Sub c1 (own' ++ (R ++ pre)) := fun ps F' own' σ' hq => hsub.trans ⟨fun q hqm => by
    rcases List.mem_append.mp hqm with h | h
    · rcases List.mem_append.mp h with h | h
      · exact (hP ps F' own' σ' _ hq hRR).h _ h
      · unfold frzs at h hown
        rw [List.filter_append, hown, List.nil_append] at h
        exact List.mem_append_right _ (List.mem_append_left _ (List.mem_filter.mp h).1)
    · exact List.mem_append_right _ (List.mem_append_right _ h)⟩
  refine ⟨fun i m σ' H' => m = xs.length - i ∧ i ≤ xs.length ∧ ∃ F' own', Le F2 F' ∧ Sta F' (own' ++ (R ++ pre)) H' ∧ P (xs.take i) F' own' σ', ⟨xs.length, by omega, Nat.zero_le _, F2, own, Le.refl _, S2', h0 F2 l2.one⟩, ?_⟩
  rintro i m σ' H' ⟨rfl, hle, F', own', l3, S3, hq⟩
  have hwi := hw F' (own' ++ (R ++ pre)) H' l3 (hc1 _ _ _ _ hq) S3 i
  by_cases hlt : i < xs.length
  · have hx : xs[i]? = some xs[i] := List.getElem?_eq_getElem hlt
    have hsp : xs = xs.take i ++ xs[i] :: xs.drop (i + 1) := by rw [← List.drop_eq_getElem_cons hlt, List.take_append_drop]
    generalize xs[i] = x at hx hsp
    obtain ⟨hgo, hyld⟩ := hwi.1 x hx
    refine .inr ⟨hgo, fun σ2 H'' => ∃ F2' own2, Le F2 F2' ∧ Sta F2' (own2 ++ (R ++ pre)) H'' ∧ P (xs.take (i + 1)) F2' own2 σ2, fun σ2 H'' q => ⟨xs.length - (i + 1), by omega, rfl, hlt, q⟩, fun v H'' hy => ?_⟩
    obtain ⟨F3, l4, S4, hr⟩ := hyld v H'' hy
    refine hb.run F3 _ H'' v x σ' _ S4 hr fun σ1 b1 => ?_
    have body := turn _ x _ F' F3 own' σ' H'' v σ1 (R ++ pre) hsp (l2.trans l3).one l4.one hRR hRl S4 hq b1
    rw [← take_succ_get hx] at body
    refine body.mono ?_ ?_ ?_ ?_
    · rintro σ2 H3 ⟨F4, own2, l5, S5, q5⟩
      exact ⟨F4, own2, l3.trans (l4.trans l5), S5, q5⟩
    · exact fun _ _ q => q
    · exact fun _ _ q => q
    · rintro σ2 H3 ⟨F4, own2, l5, S5, q5⟩
      exact ⟨F4, own2, l3.trans (l4.trans l5), S5, q5⟩
  · have ei : i = xs.length := by omega
    subst ei
    rw [List.take_length] at hq
    exact .inl ⟨hwi.2 (Nat.le_refl _), done F' own' σ' H' _ (l2.trans l3).one hRR hRl S3 hq⟩
end
end DL

-- part DLf
/-! DL, sixth part: while, defs and their calls, instances. -/
namespace DL
open PySem PySem.Spec PyProof.Rows L2

section
variable {X : Cx} {σ : Sl} {F F0 : Hp} {cs cs0 : Cs} {H : Hp} {e a b c d o : Expr} {pos : Pos} {α β γ δ : Type} {r : Rep α} {t : Rep β} {m : Rep γ} {n : Rep δ} {x : α} {y : β} {i j : Int} {p q : Bool} {D : Ends} {Q : VK}
theorem ws_while {ι : Type} {body : List Stmt} (W : ι → Sl → Hp → Prop) (μ : ι → Nat) (i0 : ι) (hp : PassesOwn (model X.prog X.w) X.A X.env X.xe) (h0 : W i0 σ H)
    (turn : ∀ i σ H, W i σ H → WT X c σ H fun b H1 => if b = true then WSs X body { D with nx := fun σ' H' => ∃ i', μ i' < μ i ∧ W i' σ' H', ct := fun σ' H' => ∃ i', μ i' < μ i ∧ W i' σ' H', bk := D.nx } σ H1 else D.nx σ H1) : WS X (.While c body [] pos) D σ H :=
  wsB (ps_while hp ptW pssW) ⟨fun k σ H => ∃ i, μ i = k ∧ W i σ H, ⟨_, i0, rfl, h0⟩, fun k σ' H' ⟨i, ei, w⟩ => (turn i σ' H' w).mono fun b H1 q => by
    cases b with
    | true =>
      rw [if_pos rfl] at q ⊢
      exact ⟨_, fun σ2 H2 ⟨i', l, w'⟩ => ⟨μ i', by rw [← ei]; exact l, i', rfl, w'⟩, q⟩
    | false => exact q⟩

/-! ### a def -/
structure Fn (P : Program) (w : World) (K : PySem.W.Frag) (mg : Str → Option Value) (base : Heap) (k : Nat) (z : Str) (st : Stmt) (ps : List Str) (sp : Sp) : Prop where
  ex : ∃ (f : Addr) (fd : FuncData), FnOk P w K mg base CX0 k f fd ps sp ∧ mg z = some (.ref f) ∧ Fun K z z st f fd ∧ Binds K fd ps []
theorem fn_mk {P : Program} {w : World} {K : PySem.W.Frag} {mg : Str → Option Value} {base : Heap} {k : Nat} {z : Str} {st : Stmt} {N ps : List Str} {sp : Sp} {f : Addr} {fd : FuncData} (hF : Fun K z z st f fd) (hm : mg z = some (.ref f)) (hb : Binds K fd ps []) (S : FnScope N ps (defScope st))
    (len : ∀ vs H Q E, sp vs H Q E → vs.length = ps.length)
    (body : ∀ (cdv : Value) (A : Around) (outer : List Env) (s : Shared) (H : Hp) (vs : List V) (Q : VK) (E : XK), Room k (A.deeper (envOfC z (defScope st) s.heap.objs.size f cdv)) → sp vs H Q E →
      WSs (cxOf CX0 P w K mg base N z (defScope st) f cdv A outer s H E).nox (defBody st) { nx := fun _ H' => Q .non H', rt := Q } (start N vs) H) : Fn P w K mg base (k + 1) z st ps sp :=
  ⟨f, fd, hF.ok S len fun cdv A outer s H vs Q E hr h => ⟨_, pssW, body cdv A outer s H vs Q E hr h⟩, hm, hF, hb⟩
theorem Fn.imp {P : Program} {w : World} {K : PySem.W.Frag} {mg : Str → Option Value} {base : Heap} {k : Nat} {z : Str} {st : Stmt} {ps : List Str} {sp sp' : Sp} (h : Fn P w K mg base k z st ps sp) (f : ∀ vs H Q E, sp' vs H Q E → sp vs H Q E) : Fn P w K mg base k z st ps sp' :=
  let ⟨a, b, c, d⟩ := h.ex
  ⟨a, b, c.imp f, d⟩
section call
variable {k l : Nat} {z : Str} {st : Stmt} {ps : List Str} {sp : Sp} {pp : Pos}
theorem we_callA {es : List Expr} (c : Fn X.prog X.w X.K X.mg X.base k z st ps sp) (hr : Room l X.A) (hk : k ≤ l) (hg : Gl X z) (h : WA X (e :: es) σ H fun vs H1 => sp vs H1 Q E0)
    (hdb : (z == ("__debug__" : Str)) = false := by decide) (he : starEach (e :: es) X.env = (false, eval e X.env) :: starEach es X.env := by rfl) (hpl : (backTo pos (starEach es X.env)).any (·.1) = false := by rfl) : WE X (.Call (.Name z pp) (e :: es) [] pos) σ H Q := by
  obtain ⟨f, fd, F, hm, G, b⟩ := c.ex
  exact weB (pe_call F (hr.mono hk) hg hm G.kp b .nil pass0 paW hdb he hpl) (h.mono fun vs H1 q => by rw [List.append_nil]; exact q)
theorem we_call0 (c : Fn X.prog X.w X.K X.mg X.base k z st ps sp) (hr : Room l X.A) (hk : k ≤ l) (hg : Gl X z) (h : sp [] H Q E0)
    (hdb : (z == ("__debug__" : Str)) = false := by decide) : WE X (.Call (.Name z pp) [] [] pos) σ H Q := by
  obtain ⟨f, fd, F, hm, G, b⟩ := c.ex
  exact weB (pe_call0 F (hr.mono hk) hg hm G.kp b .nil pass0 hdb) h
theorem wa1 {Q : List V → Hp → Prop} (h : WE X a σ H fun v H1 => Q [v] H1) (he : starEach [a] X.env = (false, eval a X.env) :: starEach [] X.env := by rfl) : WA X [a] σ H Q := waB (pa_cons peW pa_nil he) h
theorem wa2 {Q : List V → Hp → Prop} (h : WE X a σ H fun v H1 => WE X b σ H1 fun v2 H2 => Q [v, v2] H2) (he : starEach [a, b] X.env = (false, eval a X.env) :: starEach [b] X.env := by rfl) (he2 : starEach [b] X.env = (false, eval b X.env) :: starEach [] X.env := by rfl) : WA X [a, b] σ H Q := waB (pa_cons peW (pa_cons peW pa_nil he2) he) h
theorem wa3 {Q : List V → Hp → Prop} (h : WE X a σ H fun v H1 => WE X b σ H1 fun v2 H2 => WE X c σ H2 fun v3 H3 => Q [v, v2, v3] H3) (he : starEach [a, b, c] X.env = (false, eval a X.env) :: starEach [b, c] X.env := by rfl) (he2 : starEach [b, c] X.env = (false, eval b X.env) :: starEach [c] X.env := by rfl) (he3 : starEach [c] X.env = (false, eval c X.env) :: starEach [] X.env := by rfl) : WA X [a, b, c] σ H Q := waB (pa_cons peW (pa_cons peW (pa_cons peW pa_nil he3) he2) he) h
theorem wa4 {Q : List V → Hp → Prop} (h : WE X a σ H fun v H1 => WE X b σ H1 fun v2 H2 => WE X c σ H2 fun v3 H3 => WE X d σ H3 fun v4 H4 => Q [v, v2, v3, v4] H4) (he : starEach [a, b, c, d] X.env = (false, eval a X.env) :: starEach [b, c, d] X.env := by rfl) (he2 : starEach [b, c, d] X.env = (false, eval b X.env) :: starEach [c, d] X.env := by rfl) (he3 : starEach [c, d] X.env = (false, eval c X.env) :: starEach [d] X.env := by rfl) (he4 : starEach [d] X.env = (false, eval d X.env) :: starEach [] X.env := by rfl) : WA X [a, b, c, d] σ H Q :=
  waB (pa_cons peW (pa_cons peW (pa_cons peW (pa_cons peW pa_nil he4) he3) he2) he) h
/-- f(k = e, ..): keywords alone -/
theorem we_callK {kws : List Keyword} {tk : TA} (ks : List Str) (g : List Value → List Value) (gV : List V → List V) (c : Fn X.prog X.w X.K X.mg X.base k z st ps sp) (hr : Room l X.A) (hk : k ≤ l) (hg : Gl X z) (hkw : PK X kws tk)
    (hb : ∀ (kV doc pm : Value) (an : Option Addr) (cdv ct : Value) (ws : List Value), (g ws).length = ps.length → bindArgs (PySem.W.fnOf z z (defArgs st) (defBody st) (defScope st) .none kV doc pm an cdv ct) ⟨[], ks.zip ws⟩ = pure (ps.zip (g ws)))
    (hrel : ∀ {zs : List V} {ws : List Value}, Vals zs ws → Vals (gV zs) (g ws))
    (h : tk σ H fun zs H1 => sp (gV zs) H1 Q E0)
    (hall : (backToKw pos (keywordEach kws X.env)).all (·.1.isSome) = true := by rfl) (hks : (backToKw pos (keywordEach kws X.env)).filterMap (·.1) = ks := by rfl) (hdb : (z == ("__debug__" : Str)) = false := by decide)
    (hpl : ((backTo pos (starEach [] X.env)).any (·.1) || (backToKw pos (keywordEach kws X.env)).any (·.1.isNone)) = false := by rfl) : WE X (.Call (.Name z pp) [] kws pos) σ H Q := by
  obtain ⟨f, fd, F, hm, G, b⟩ := c.ex
  refine fun pins s I => ?_
  refine wpAny_Call_Name_kw (ld_glob I hg hm ?_ hdb)
  refine PySem.W.callWith_KW0 (h₀ := X.base) I.ok.mod.kin G.kp hall ?_ hpl
  refine thn (hkw.run pos pins s σ H _ I h) fun ws s2 ⟨zs, H2, I2, rz, q2⟩ => ⟨I2.kIn, ?_⟩
  rw [hks]
  obtain ⟨oc, od, kV, doc, pm, an, cdv, ct, osl, efd, lk, hcd⟩ := G.ex
  have hl : (g ws).length = ps.length := by rw [← (hrel rz).length]; exact F.len _ _ _ _ q2
  show wpAny _ _ (call (.ref f) [] (ks.zip ws)) _ _ _
  refine wpAny_call (codeAny_mono (F.run X.A X.stack s2 H2 ⟨[], ks.zip ws⟩ (g ws) (gV zs) Q E0 (hr.mono hk) I2.env0 (.of_eq (by rw [efd]; exact hb kV doc pm an cdv ct ws hl)) (hrel rz) q2) fun r s' hq => ?_)
  cases r with
  | error e => exact False.elim hq
  | ok fl =>
    cases fl with
    | ret u => exact I2.after hq
    | next => exact False.elim hq
    | brk => exact False.elim hq
    | cont => exact False.elim hq
end call

/-! ### promises by data -/
/-- of one argument: r what it is, pre what is asked; the answer lies frozen; post what it is -/
def sp1 (r : Rep α) (m : Rep γ) (pre : α → Prop) (post : α → γ → Prop) : Sp := fun vs H Q _ => ∃ F cs v x, vs = [v] ∧ Sta F cs H ∧ Is r F cs v x ∧ pre x ∧ ∀ y v' F' H', Le1 F F' → Sta F' cs H' → Is m F' [] v' y → post x y → Q v' H'
def sp2 (r : Rep α) (t : Rep β) (m : Rep γ) (pre : α → β → Prop) (post : α → β → γ → Prop) : Sp := fun vs H Q _ => ∃ F cs v x v2 y, vs = [v, v2] ∧ Sta F cs H ∧ Is r F cs v x ∧ Is t F cs v2 y ∧ pre x y ∧ ∀ z v' F' H', Le1 F F' → Sta F' cs H' → Is m F' [] v' z → post x y z → Q v' H'
def sp3 (r : Rep α) (t : Rep β) (n : Rep δ) (m : Rep γ) (pre : α → β → δ → Prop) (post : α → β → δ → γ → Prop) : Sp := fun vs H Q _ => ∃ F cs v x v2 y v3 w, vs = [v, v2, v3] ∧ Sta F cs H ∧ Is r F cs v x ∧ Is t F cs v2 y ∧ Is n F cs v3 w ∧ pre x y w ∧ ∀ z v' F' H', Le1 F F' → Sta F' cs H' → Is m F' [] v' z → post x y w z → Q v' H'
def sp4 {ε : Type} (r : Rep α) (t : Rep β) (n : Rep δ) (u : Rep ε) (m : Rep γ) (pre : α → β → δ → ε → Prop) (post : α → β → δ → ε → γ → Prop) : Sp := fun vs H Q _ => ∃ F cs v x v2 y v3 w v4 f, vs = [v, v2, v3, v4] ∧ Sta F cs H ∧ Is r F cs v x ∧ Is t F cs v2 y ∧ Is n F cs v3 w ∧ Is u F cs v4 f ∧ pre x y w f ∧ ∀ z v' F' H', Le1 F F' → Sta F' cs H' → Is m F' [] v' z → post x y w f z → Q v' H'
theorem sp1_len {r : Rep α} {m : Rep γ} {pre : α → Prop} {post : α → γ → Prop} : ∀ vs H Q E, sp1 r m pre post vs H Q E → vs.length = 1 := fun vs H Q E ⟨_, _, _, _, e, _⟩ => by rw [e]; rfl
theorem sp2_len {r : Rep α} {t : Rep β} {m : Rep γ} {pre : α → β → Prop} {post : α → β → γ → Prop} : ∀ vs H Q E, sp2 r t m pre post vs H Q E → vs.length = 2 := fun vs H Q E ⟨_, _, _, _, _, _, e, _⟩ => by rw [e]; rfl
theorem sp3_len {r : Rep α} {t : Rep β} {n : Rep δ} {m : Rep γ} {pre : α → β → δ → Prop} {post : α → β → δ → γ → Prop} : ∀ vs H Q E, sp3 r t n m pre post vs H Q E → vs.length = 3 := fun vs H Q E ⟨_, _, _, _, _, _, _, _, e, _⟩ => by rw [e]; rfl
theorem sp4_len {ε : Type} {r : Rep α} {t : Rep β} {n : Rep δ} {u : Rep ε} {m : Rep γ} {pre : α → β → δ → ε → Prop} {post : α → β → δ → ε → γ → Prop} : ∀ vs H Q E, sp4 r t n u m pre post vs H Q E → vs.length = 4 := fun vs H Q E ⟨_, _, _, _, _, _, _, _, _, _, e, _⟩ => by rw [e]; rfl
section
variable {k l : Nat} {z : Str} {st : Stmt} {ps : List Str} {pp : Pos}
/-- a call as a datum: the promise leaves one answer -/
theorem ge_call1 {w : γ} {pre : α → Prop} {post : α → γ → Prop} [Stable m] (c : Fn X.prog X.w X.K X.mg X.base k z st ps (sp1 r m pre post)) (hr : Room l X.A) (hg : Gl X z) (ha : GE X σ F cs a r x) (hp : pre x) (hy : ∀ y, post x y → y = w) (hk : k ≤ l := by decide)
    (hdb : (z == ("__debug__" : Str)) = false := by decide) (he : starEach [a] X.env = (false, eval a X.env) :: starEach [] X.env := by rfl) (hpl : (backTo pos (starEach [] X.env)).any (·.1) = false := by rfl) : GE X σ F cs (.Call (.Name z pp) [a] [] pos) (fz m) w := fun F1 cs1 H Q l1 u1 S q =>
  we_callA c hr hk hg (wa1 (ha F1 cs1 H _ l1 u1 S fun v F2 H2 l2 S2 hv => ⟨F2, cs1, v, x, rfl, S2, ⟨hv⟩, hp, fun w v' F' H' l3 S3 hw e => by have := hy _ e; subst this; exact q v' F' H' (l2.trans l3.le) S3 hw.h⟩) he) hdb he hpl
theorem ge_call2 {w : γ} {pre : α → β → Prop} {post : α → β → γ → Prop} [sr : Stable r] [Stable m] (c : Fn X.prog X.w X.K X.mg X.base k z st ps (sp2 r t m pre post)) (hr : Room l X.A) (hg : Gl X z) (ha : GE X σ F cs a r x) (hb : GE X σ F cs b t y) (hp : pre x y) (hy : ∀ z, post x y z → z = w) (hk : k ≤ l := by decide)
    (hdb : (z == ("__debug__" : Str)) = false := by decide) (he : starEach [a, b] X.env = (false, eval a X.env) :: starEach [b] X.env := by rfl) (he2 : starEach [b] X.env = (false, eval b X.env) :: starEach [] X.env := by rfl) (hpl : (backTo pos (starEach [b] X.env)).any (·.1) = false := by rfl) : GE X σ F cs (.Call (.Name z pp) [a, b] [] pos) (fz m) w := fun F1 cs1 H Q l1 u1 S q =>
  we_callA c hr hk hg (wa2 (ha F1 cs1 H _ l1 u1 S fun v F2 H2 l2 S2 hv => hb F2 cs1 H2 _ (l1.trans l2) u1 S2 fun v2 F3 H3 l3 S3 hv2 => ⟨F3, cs1, v, x, v2, y, rfl, S3, ⟨sr.up l3 (Sub.refl _) hv⟩, ⟨hv2⟩, hp, fun w v' F' H' l4 S4 hw e => by have := hy _ e; subst this; exact q v' F' H' (l2.trans (l3.trans l4.le)) S4 hw.h⟩) he he2) hdb he hpl
theorem ge_call3 {w : γ} {g : δ} {pre : α → β → δ → Prop} {post : α → β → δ → γ → Prop} [sr : Stable r] [st' : Stable t] [Stable m] (c' : Fn X.prog X.w X.K X.mg X.base k z st ps (sp3 r t n m pre post)) (hr : Room l X.A) (hg : Gl X z) (ha : GE X σ F cs a r x) (hb : GE X σ F cs b t y) (hc : GE X σ F cs c n g) (hp : pre x y g) (hy : ∀ z, post x y g z → z = w) (hk : k ≤ l := by decide)
    (hdb : (z == ("__debug__" : Str)) = false := by decide) (he : starEach [a, b, c] X.env = (false, eval a X.env) :: starEach [b, c] X.env := by rfl) (he2 : starEach [b, c] X.env = (false, eval b X.env) :: starEach [c] X.env := by rfl) (he3 : starEach [c] X.env = (false, eval c X.env) :: starEach [] X.env := by rfl) (hpl : (backTo pos (starEach [b, c] X.env)).any (·.1) = false := by rfl) : GE X σ F cs (.Call (.Name z pp) [a, b, c] [] pos) (fz m) w := fun F1 cs1 H Q l1 u1 S q =>
  we_callA c' hr hk hg (wa3 (ha F1 cs1 H _ l1 u1 S fun v F2 H2 l2 S2 hv => hb F2 cs1 H2 _ (l1.trans l2) u1 S2 fun v2 F3 H3 l3 S3 hv2 => hc F3 cs1 H3 _ (l1.trans (l2.trans l3)) u1 S3 fun v3 F4 H4 l4 S4 hv3 => ⟨F4, cs1, v, x, v2, y, v3, g, rfl, S4, ⟨sr.up (l3.trans l4) (Sub.refl _) hv⟩, ⟨st'.up l4 (Sub.refl _) hv2⟩, ⟨hv3⟩, hp, fun w v' F' H' l5 S5 hw e => by
    have := hy _ e; subst this; exact q v' F' H' (l2.trans (l3.trans (l4.trans l5.le))) S5 hw.h⟩) he he2 he3) hdb he hpl
/-- .. not said to be frozen -/
theorem ge_call1u {w : γ} {pre : α → Prop} {post : α → γ → Prop} [Stable m] (c : Fn X.prog X.w X.K X.mg X.base k z st ps (sp1 r m pre post)) (hr : Room l X.A) (hg : Gl X z) (ha : GE X σ F cs a r x) (hp : pre x) (hy : ∀ y, post x y → y = w) (hk : k ≤ l := by decide)
    (hdb : (z == ("__debug__" : Str)) = false := by decide) (he : starEach [a] X.env = (false, eval a X.env) :: starEach [] X.env := by rfl) (hpl : (backTo pos (starEach [] X.env)).any (·.1) = false := by rfl) : GE X σ F cs (.Call (.Name z pp) [a] [] pos) m w := GE.un (ge_call1 c hr hg ha hp hy hk hdb he hpl)
theorem ge_call2u {w : γ} {pre : α → β → Prop} {post : α → β → γ → Prop} [sr : Stable r] [Stable m] (c : Fn X.prog X.w X.K X.mg X.base k z st ps (sp2 r t m pre post)) (hr : Room l X.A) (hg : Gl X z) (ha : GE X σ F cs a r x) (hb : GE X σ F cs b t y) (hp : pre x y) (hy : ∀ z, post x y z → z = w) (hk : k ≤ l := by decide)
    (hdb : (z == ("__debug__" : Str)) = false := by decide) (he : starEach [a, b] X.env = (false, eval a X.env) :: starEach [b] X.env := by rfl) (he2 : starEach [b] X.env = (false, eval b X.env) :: starEach [] X.env := by rfl) (hpl : (backTo pos (starEach [b] X.env)).any (·.1) = false := by rfl) : GE X σ F cs (.Call (.Name z pp) [a, b] [] pos) m w := GE.un (ge_call2 c hr hg ha hb hp hy hk hdb he he2 hpl)
theorem ge_call3u {w : γ} {g : δ} {pre : α → β → δ → Prop} {post : α → β → δ → γ → Prop} [sr : Stable r] [st' : Stable t] [Stable m] (c' : Fn X.prog X.w X.K X.mg X.base k z st ps (sp3 r t n m pre post)) (hr : Room l X.A) (hg : Gl X z) (ha : GE X σ F cs a r x) (hb : GE X σ F cs b t y) (hc : GE X σ F cs c n g) (hp : pre x y g) (hy : ∀ z, post x y g z → z = w) (hk : k ≤ l := by decide)
    (hdb : (z == ("__debug__" : Str)) = false := by decide) (he : starEach [a, b, c] X.env = (false, eval a X.env) :: starEach [b, c] X.env := by rfl) (he2 : starEach [b, c] X.env = (false, eval b X.env) :: starEach [c] X.env := by rfl) (he3 : starEach [c] X.env = (false, eval c X.env) :: starEach [] X.env := by rfl) (hpl : (backTo pos (starEach [b, c] X.env)).any (·.1) = false := by rfl) : GE X σ F cs (.Call (.Name z pp) [a, b, c] [] pos) m w := GE.un (ge_call3 c' hr hg ha hb hc hp hy hk hdb he he2 he3 hpl)
/-- .. whose answer is told by a relation -/
theorem we_call1 {H : Hp} {Q : VK} {pre : α → Prop} {post : α → γ → Prop} (c : Fn X.prog X.w X.K X.mg X.base k z st ps (sp1 r m pre post)) (hr : Room l X.A) (hg : Gl X z) (ha : GE X σ F cs a r x) (S : Sta F cs H) (hp : pre x) (q : ∀ y v F2 H2, Le1 F F2 → Sta F2 cs H2 → Is m F2 [] v y → post x y → Q v H2) (hk : k ≤ l := by decide)
    (hdb : (z == ("__debug__" : Str)) = false := by decide) (he : starEach [a] X.env = (false, eval a X.env) :: starEach [] X.env := by rfl) (hpl : (backTo pos (starEach [] X.env)).any (·.1) = false := by rfl) : WE X (.Call (.Name z pp) [a] [] pos) σ H Q :=
  we_callA c hr hk hg (wa1 (ha F cs H _ (Le.refl _) (Sub.refl _) S fun v F2 H2 l2 S2 hv => ⟨F2, cs, v, x, rfl, S2, ⟨hv⟩, hp, fun w v' F' H' l3 S3 hw e => q w v' F' H' (l2.trans l3.le).one S3 hw e⟩) he) hdb he hpl
theorem we_call2 {H : Hp} {Q : VK} {pre : α → β → Prop} {post : α → β → γ → Prop} [sr : Stable r] (c : Fn X.prog X.w X.K X.mg X.base k z st ps (sp2 r t m pre post)) (hr : Room l X.A) (hg : Gl X z) (ha : GE X σ F cs a r x) (hb : GE X σ F cs b t y) (S : Sta F cs H) (hp : pre x y) (q : ∀ w v F2 H2, Le1 F F2 → Sta F2 cs H2 → Is m F2 [] v w → post x y w → Q v H2) (hk : k ≤ l := by decide)
    (hdb : (z == ("__debug__" : Str)) = false := by decide) (he : starEach [a, b] X.env = (false, eval a X.env) :: starEach [b] X.env := by rfl) (he2 : starEach [b] X.env = (false, eval b X.env) :: starEach [] X.env := by rfl) (hpl : (backTo pos (starEach [b] X.env)).any (·.1) = false := by rfl) : WE X (.Call (.Name z pp) [a, b] [] pos) σ H Q :=
  we_callA c hr hk hg (wa2 (ha F cs H _ (Le.refl _) (Sub.refl _) S fun v F2 H2 l2 S2 hv => hb F2 cs H2 _ l2 (Sub.refl _) S2 fun v2 F3 H3 l3 S3 hv2 => ⟨F3, cs, v, x, v2, y, rfl, S3, ⟨sr.up l3 (Sub.refl _) hv⟩, ⟨hv2⟩, hp, fun w v' F' H' l4 S4 hw e => q w v' F' H' (l2.trans (l3.trans l4.le)).one S4 hw e⟩) he he2) hdb he hpl
theorem we_call3 {g : δ} {H : Hp} {Q : VK} {pre : α → β → δ → Prop} {post : α → β → δ → γ → Prop} [sr : Stable r] [st' : Stable t] (c' : Fn X.prog X.w X.K X.mg X.base k z st ps (sp3 r t n m pre post)) (hr : Room l X.A) (hg : Gl X z) (ha : GE X σ F cs a r x) (hb : GE X σ F cs b t y) (hc : GE X σ F cs c n g) (S : Sta F cs H) (hp : pre x y g) (q : ∀ w v F2 H2, Le1 F F2 → Sta F2 cs H2 → Is m F2 [] v w → post x y g w → Q v H2) (hk : k ≤ l := by decide)
    (hdb : (z == ("__debug__" : Str)) = false := by decide) (he : starEach [a, b, c] X.env = (false, eval a X.env) :: starEach [b, c] X.env := by rfl) (he2 : starEach [b, c] X.env = (false, eval b X.env) :: starEach [c] X.env := by rfl) (he3 : starEach [c] X.env = (false, eval c X.env) :: starEach [] X.env := by rfl) (hpl : (backTo pos (starEach [b, c] X.env)).any (·.1) = false := by rfl) : WE X (.Call (.Name z pp) [a, b, c] [] pos) σ H Q :=
  we_callA c' hr hk hg (wa3 (ha F cs H _ (Le.refl _) (Sub.refl _) S fun v F2 H2 l2 S2 hv => hb F2 cs H2 _ l2 (Sub.refl _) S2 fun v2 F3 H3 l3 S3 hv2 => hc F3 cs H3 _ (l2.trans l3) (Sub.refl _) S3 fun v3 F4 H4 l4 S4 hv3 => ⟨F4, cs, v, x, v2, y, v3, g, rfl, S4, ⟨sr.up (l3.trans l4) (Sub.refl _) hv⟩, ⟨st'.up l4 (Sub.refl _) hv2⟩, ⟨hv3⟩, hp, fun w v' F' H' l5 S5 hw e => q w v' F' H' (l2.trans (l3.trans (l4.trans l5.le))).one S5 hw e⟩) he he2 he3) hdb he hpl
theorem we_call4 {ε : Type} {u : Rep ε} {f : ε} {g : δ} {H : Hp} {Q : VK} {pre : α → β → δ → ε → Prop} {post : α → β → δ → ε → γ → Prop} [sr : Stable r] [st' : Stable t] [sn : Stable n] (c' : Fn X.prog X.w X.K X.mg X.base k z st ps (sp4 r t n u m pre post)) (hr : Room l X.A) (hg : Gl X z) (ha : GE X σ F cs a r x) (hb : GE X σ F cs b t y) (hc : GE X σ F cs c n g) (hd : GE X σ F cs d u f) (S : Sta F cs H) (hp : pre x y g f) (q : ∀ w v F2 H2, Le1 F F2 → Sta F2 cs H2 → Is m F2 [] v w → post x y g f w → Q v H2) (hk : k ≤ l := by decide)
    (hdb : (z == ("__debug__" : Str)) = false := by decide) (he : starEach [a, b, c, d] X.env = (false, eval a X.env) :: starEach [b, c, d] X.env := by rfl) (he2 : starEach [b, c, d] X.env = (false, eval b X.env) :: starEach [c, d] X.env := by rfl) (he3 : starEach [c, d] X.env = (false, eval c X.env) :: starEach [d] X.env := by rfl) (he4 : starEach [d] X.env = (false, eval d X.env) :: starEach [] X.env := by rfl) (hpl : (backTo pos (starEach [b, c, d] X.env)).any (·.1) = false := by rfl) : WE X (.Call (.Name z pp) [a, b, c, d] [] pos) σ H Q :=
  we_callA c' hr hk hg (wa4 (ha F cs H _ (Le.refl _) (Sub.refl _) S fun v F2 H2 l2 S2 hv => hb F2 cs H2 _ l2 (Sub.refl _) S2 fun v2 F3 H3 l3 S3 hv2 => hc F3 cs H3 _ (l2.trans l3) (Sub.refl _) S3 fun v3 F4 H4 l4 S4 hv3 => hd F4 cs H4 _ (l2.trans (l3.trans l4)) (Sub.refl _) S4 fun v4 F5 H5 l5 S5 hv4 => ⟨F5, cs, v, x, v2, y, v3, g, v4, f, rfl, S5, ⟨sr.up (l3.trans (l4.trans l5)) (Sub.refl _) hv⟩, ⟨st'.up (l4.trans l5) (Sub.refl _) hv2⟩, ⟨sn.up l5 (Sub.refl _) hv3⟩, ⟨hv4⟩, hp, fun w v' F' H' l6 S6 hw e => q w v' F' H' (l2.trans (l3.trans (l4.trans (l5.trans l6.le)))).one S6 hw e⟩) he he2 he3 he4) hdb he hpl
end
end
end DL

-- part DLg
/-! DL, seventh part: isinstance. -/
namespace DL
open PySem PySem.Spec PyProof.Rows L2
theorem gt_is {X : Cx} {σ : Sl} {F : Hp} {cs : Cs} {e : Expr} {p q : Bool} (h : p = q) (g : GT X σ F cs e p) : GT X σ F cs e q := h ▸ g
theorem gc_is {X : Cx} {σ : Sl} {F : Hp} {cs : Cs} {op : CmpOp} {a b : Expr} {p q : Bool} (h : p = q) (g : GC X σ F cs op a b p) : GC X σ F cs op a b q := h ▸ g
theorem ge_is {α : Type} {r : Rep α} {x y : α} {X : Cx} {σ : Sl} {F : Hp} {cs : Cs} {e : Expr} (h : x = y) (g : GE X σ F cs e r x) : GE X σ F cs e r y := h ▸ g
theorem boot_isi : bootBuiltins "isinstance" = some (.builtin "isinstance") := by decide +kernel
/-- of one built-in type -/
class HasTy {α : Type} (r : Rep α) (T : outParam String) : Prop where
  is : ∀ {K : PySem.W.Frag} {F : Hp} {cs : Cs} {H : Hp} {v : V} {x : α}, Sta F cs H → r F cs v x → TyX K H v (.type T)
instance : HasTy rI "int" := ⟨fun _ e => by rw [show _ = _ from e]; exact .base (.int _)⟩
instance : HasTy rB "bool" := ⟨fun _ e => by rw [show _ = _ from e]; exact .base (.bl _)⟩
instance : HasTy rN "NoneType" := ⟨fun _ e => by rw [show _ = _ from e]; exact .base .non⟩
instance : HasTy rS "str" := ⟨fun _ e => by rw [show _ = _ from e]; exact .base (.str _)⟩
instance {α : Type} {r : Rep α} : HasTy (rL r) "list" := ⟨fun S ⟨w, vs, e, h, _⟩ => by rw [e]; exact .base (.lst (S.rd h))⟩
instance {α : Type} {r : Rep α} : HasTy (rTs r) "tuple" := ⟨fun S ⟨w, vs, e, h, _⟩ => by rw [e]; exact .base (.tup (S.tup h))⟩
instance {α β : Type} {r : Rep α} {t : Rep β} : HasTy (rT2 r t) "tuple" := ⟨fun S ⟨w, u, u2, e, h, _⟩ => by rw [e]; exact .base (.tup (S.tup h))⟩
instance {α β γ : Type} {r : Rep α} {t : Rep β} {m : Rep γ} : HasTy (rT3 r t m) "tuple" := ⟨fun S ⟨w, u, u2, u3, e, h, _⟩ => by rw [e]; exact .base (.tup (S.tup h))⟩
instance {α : Type} {r : Rep α} {T : String} [z : HasTy r T] : HasTy (fz r) T := ⟨fun S h => z.is (S.sub (List.nil_sublist _)) h⟩
section
variable {X : Cx} {σ : Sl} {F : Hp} {cs : Cs} {a : Expr} {pos pp p1 p2 p3 : Pos} {α : Type} {r : Rep α} {x : α} {T C C2 : String} {z z2 : Str}
theorem ge_isi {b : Bool} [HasTy r T] [s : Stable r] (hg : Gl X "isinstance") (hm : X.mg "isinstance" = none) (hgz : Gl X z) (hmz : X.mg z = none) (hz : bootBuiltins z = some (.type C)) (hb : kitB T C = some b) (ha : GE X σ F cs a r x)
    (hn : z ≠ "__name__" := by decide) (hd : (z == ("__debug__" : Str)) = false := by decide)
    (he : starEach [a, .Name z p1] X.env = (false, eval a X.env) :: starEach [.Name z p1] X.env := by rfl) (he2 : starEach [.Name z p1] X.env = (false, eval (.Name z p1) X.env) :: starEach [] X.env := by rfl) (hpl : (backTo pos (starEach [.Name z p1] X.env)).any (·.1) = false := by rfl) :
    GE X σ F cs (.Call (.Name "isinstance" pp) [a, .Name z p1] [] pos) rB b := fun F1 cs1 H Q l1 u1 S q =>
  weB (pe_callB call_isi hg hm boot_isi (pa_cons peW (pa_cons (pe_bltn (v := .ty C) hgz hmz hz rfl hn hd) pa_nil he2) he) (by decide) (by decide) he hpl)
    (ha F1 cs1 H _ l1 u1 S fun v F2 H2 l2 S2 h => ⟨v, .ty C, .type T, .type C, b, rfl, .ty C, HasTy.is (r := r) S2 h, kit_ty hb, q _ F2 H2 l2 S2 rfl⟩)
theorem ge_isi2 {b b2 : Bool} {n : Nat} [HasTy r T] [s : Stable r] (hg : Gl X "isinstance") (hm : X.mg "isinstance" = none) (hgz : Gl X z) (hmz : X.mg z = none) (hz : bootBuiltins z = some (.type C)) (hgz2 : Gl X z2) (hmz2 : X.mg z2 = none) (hz2 : bootBuiltins z2 = some (.type C2)) (hb : kitB T C = some b) (hb2 : kitB T C2 = some b2) (ha : GE X σ F cs a r x)
    (hn : z ≠ "__name__" := by decide) (hd : (z == ("__debug__" : Str)) = false := by decide) (hn2 : z2 ≠ "__name__" := by decide) (hd2 : (z2 == ("__debug__" : Str)) = false := by decide)
    (he : starEach [a, .Tuple [.Name z p1, .Name z2 p2] n p3] X.env = (false, eval a X.env) :: starEach [.Tuple [.Name z p1, .Name z2 p2] n p3] X.env := by rfl) (he2 : starEach [.Tuple [.Name z p1, .Name z2 p2] n p3] X.env = (false, eval (.Tuple [.Name z p1, .Name z2 p2] n p3) X.env) :: starEach [] X.env := by rfl) (hpl : (backTo pos (starEach [.Tuple [.Name z p1, .Name z2 p2] n p3] X.env)).any (·.1) = false := by rfl)
    (he3 : starEach [.Name z p1, .Name z2 p2] X.env = (false, eval (.Name z p1) X.env) :: starEach [.Name z2 p2] X.env := by rfl) (he4 : starEach [.Name z2 p2] X.env = (false, eval (.Name z2 p2) X.env) :: starEach [] X.env := by rfl) :
    GE X σ F cs (.Call (.Name "isinstance" pp) [a, .Tuple [.Name z p1, .Name z2 p2] n p3] [] pos) rB (b || b2) := fun F1 cs1 H Q l1 u1 S q =>
  weB (pe_callB call_isiT hg hm boot_isi (pa_cons peW (pa_cons (pe_tup (pa_cons (pe_bltn (v := .ty C) hgz hmz hz rfl hn hd) (pa_cons (pe_bltn (v := .ty C2) hgz2 hmz2 hz2 rfl hn2 hd2) pa_nil he4) he3)) pa_nil he2) he) (by decide) (by decide) he hpl)
    (ha F1 cs1 H _ l1 u1 S fun v F2 H2 l2 S2 h => ⟨by show 2 ≤ sizeLine; decide, fun d hd => ⟨v, d, _, .type T, _, b || b2, rfl, upd_same, .cons (.ty C) (.cons (.ty C2) .nil), HasTy.is (r := r) (S2.junk hd _) h, by
      refine kitAny_cons (kit_ty hb) (fun e => ?_) (fun e => by rw [e]; rfl)
      rw [e]
      exact kitAny_cons (kit_ty hb2) (fun e => by rw [e]; rfl) (fun e => by rw [e]; rfl), q _ F2 _ l2 (S2.junk hd _) rfl⟩⟩)
end
end DL

-- part K97a
namespace K97
open PySem PySem.Spec PyProof.Rows L2 DL
def topS (i : Nat) : Stmt := PySem.Challenge.pw_clockshifts_k97_whole_fair_turns_and_dea.main.body.getD i (.Pass ⟨0, 0, 0, 0⟩)
/-- what the top leaves to the defs -/
structure Txt (mg : Str → Option Value) : Prop where
  isi : mg "isinstance" = none
  int : mg "int" = none
  bool : mg "bool" = none
  list : mg "list" = none
  tuple : mg "tuple" = none
  all : mg "all" = none
  range : mg "range" = none
  len : mg "len" = none
  abs : mg "abs" = none
  mp : ∃ tk, mg "MOST_PEOPLE_turns" = some (.int 30 tk)
  mgr : ∃ tk, mg "MOST_GROUPS" = some (.int 60 tk)
abbrev sIsWhole : Stmt := topS 7
abbrev sFromTo : Stmt := topS 8
abbrev sListed : Stmt := topS 9
abbrev sRising : Stmt := topS 11
abbrev sIsGroup : Stmt := topS 15
theorem scIsWhole : FnScope ["value"] ["value"] (defScope sIsWhole) := ⟨rfl, rfl, rfl, by decide +kernel, rfl, by decide +kernel, by decide +kernel⟩
theorem scFromTo : FnScope ["value", "low", "high"] ["value", "low", "high"] (defScope sFromTo) := ⟨rfl, rfl, rfl, by decide +kernel, rfl, by decide +kernel, by decide +kernel⟩
section
variable {P : Program} {w : World} {K : PySem.W.Frag} {mg : Str → Option Value} {base : Heap}
theorem fn_is_whole {f : Addr} {fd : FuncData} (T : Txt mg) (hF : Fun K "is_whole" "is_whole" sIsWhole f fd) (hm : mg "is_whole" = some (.ref f)) (hb : Binds K fd ["value"] []) : Fn P w K mg base 1 "is_whole" sIsWhole ["value"] (sp1 rI rB (fun _ => True) (fun _ b => b = true)) := by
  refine fn_mk hF hm hb scIsWhole sp1_len fun cdv A outer s H vs Q E hr ⟨F, cs, v, x, e, S, hv, _, k⟩ => ?_
  subst e
  have hv := hv.h
  have : v = .int x := hv
  subst this
  refine wss_one (ws_retB (p := true) ?_ S fun H2 S2 => k true _ F H2 (Le.refl _).one S2 ⟨rfl⟩ rfl)
  exact ge_and (p := true) (ge_isi rfl T.isi rfl T.int boot_intT (by decide +kernel) (ge_vi (n := 0) rfl rfl)) fun _ => ge_and1 (ge_not (p := false) (ge_isi rfl T.isi rfl T.bool boot_boolT (by decide +kernel) (ge_vi (n := 0) rfl rfl)))
theorem fn_from_to {f : Addr} {fd : FuncData} (T : Txt mg) (c1 : Fn P w K mg base 1 "is_whole" sIsWhole ["value"] (sp1 rI rB (fun _ => True) (fun _ b => b = true))) (hF : Fun K "is_from_to" "is_from_to" sFromTo f fd) (hm : mg "is_from_to" = some (.ref f)) (hb : Binds K fd ["value", "low", "high"] []) :
    Fn P w K mg base 2 "is_from_to" sFromTo ["value", "low", "high"] (sp3 rI rI rI rB (fun _ _ _ => True) (fun x l h b => b = (decide (l ≤ x) && decide (x ≤ h)))) := by
  refine fn_mk hF hm hb scFromTo sp3_len fun cdv A outer s H vs Q E hr ⟨F, cs, v, x, v2, y, v3, z, e, S, ⟨hv⟩, ⟨hv2⟩, ⟨hv3⟩, _, k⟩ => ?_
  subst e
  obtain rfl : v = .int x := hv
  obtain rfl : v2 = .int y := hv2
  obtain rfl : v3 = .int z := hv3
  refine wss_one (ws_retB (p := decide (y ≤ x) && decide (x ≤ z)) ?_ S fun H2 S2 => k _ _ F H2 (Le.refl _).one S2 ⟨rfl⟩ rfl)
  exact ge_and (p := true) (ge_call1u c1 hr rfl (ge_vi (n := 0) rfl rfl) True.intro fun _ h => h) fun _ => ge_and1 (ge_chain op_le op_le (ge_vi (n := 1) rfl rfl) (ge_vi (n := 0) rfl rfl) (ge_vi (n := 2) rfl rfl))
end
end K97

-- part K97b
namespace K97
open PySem PySem.Spec PyProof.Rows L2 DL
theorem scListed : FnScope ["value"] ["value"] (defScope sListed) := ⟨rfl, rfl, rfl, by decide +kernel, rfl, by decide +kernel, by decide +kernel⟩
theorem scRising : FnScope ["items", "at"] ["items"] (defScope sRising) := ⟨rfl, rfl, rfl, by decide +kernel, rfl, by decide +kernel, by decide +kernel⟩
theorem scIsGroup : FnScope ["value", "item"] ["value"] (defScope sIsGroup) := ⟨rfl, rfl, rfl, by decide +kernel, rfl, by decide +kernel, by decide +kernel⟩
section
variable {P : Program} {w : World} {K : PySem.W.Frag} {mg : Str → Option Value} {base : Heap}
theorem fn_listed {α : Type} (r : Rep α) [Stable r] {f : Addr} {fd : FuncData} (T : Txt mg) (hF : Fun K "is_listed" "is_listed" sListed f fd) (hm : mg "is_listed" = some (.ref f)) (hb : Binds K fd ["value"] []) : Fn P w K mg base 1 "is_listed" sListed ["value"] (sp1 (rQ r) rB (fun _ => True) (fun _ b => b = true)) := by
  refine fn_mk hF hm hb scListed sp1_len fun cdv A outer s H vs Q E hr ⟨F, cs, v, x, e, S, ⟨hv⟩, _, k⟩ => ?_
  subst e
  refine wss_one (ws_retB (p := true) ?_ S fun H2 S2 => k true _ F H2 (Le.refl _).one S2 ⟨rfl⟩ rfl)
  rcases hv with hv | hv
  · have h : Is (rL r) F cs v x := ⟨hv⟩
    exact ge_isi2 (b := true) (b2 := false) rfl T.isi rfl T.list boot_listT rfl T.tuple boot_tupleT (by decide +kernel) (by decide +kernel) (ge_v (n := 0) rfl rfl h)
  · have h : Is (rTs r) F cs v x := ⟨hv⟩
    exact ge_isi2 (b := false) (b2 := true) rfl T.isi rfl T.list boot_listT rfl T.tuple boot_tupleT (by decide +kernel) (by decide +kernel) (ge_v (n := 0) rfl rfl h)
theorem all_true {α : Type} (xs : List α) : (xs.map fun _ => true).all id = true := by induction xs <;> simp_all
theorem fn_rising {f : Addr} {fd : FuncData} (T : Txt mg) (hF : Fun K "are_rising" "are_rising" sRising f fd) (hm : mg "are_rising" = some (.ref f)) (hb : Binds K fd ["items"] []) : Fn P w K mg base 1 "are_rising" sRising ["items"] (sp1 (rQ rI) rB (fun xs => xs.Pairwise (· < ·) ∧ xs.length ≤ 1000) (fun _ b => b = true)) := by
  refine fn_mk hF hm hb scRising sp1_len fun cdv A outer s H vs Q E hr ⟨F, cs, v, xs, e, S, hv, ⟨hx, hl⟩, k⟩ => ?_
  subst e
  refine wss_one (ws_retB (p := ((rng 0 ((xs.length : Int) - 1).toNat).map fun _ => true).all id) ?_ S fun H2 S2 => k true _ F H2 (Le.refl _).one S2 ⟨by rw [all_true]; rfl⟩ rfl)
  refine ge_all rfl rfl T.all (GE.un (ge_lc0 (own := [("at", 1)]) (fun _ => true) rfl scRising.nd (blkOk_by (by kernel_rfl)) (gi_rng1 rfl T.range (ge_sub (ge_lenQ rfl T.len (ge_v (n := 0) rfl rfl hv)) ge_int) (by omega) (by omega)) (Sub.nil _)
    (fun _ _ _ _ _ => gb_i scRising.nd (i := 1) rfl (.inl rfl)) (by decide) ?_ (by rw [rng_length, sizeLine_eq]; omega)))
  rintro F1 v1 x σ1 l1 hxm rfl s0 H0 C cl fp
  have hm := mem_rng.mp hxm
  obtain ⟨n, rfl⟩ : ∃ n : Nat, x = n := ⟨x.toNat, by omega⟩
  have hn : n + 1 < xs.length := by omega
  have h2 : atI xs ((n : Int) + 1) = some xs[n + 1] := by
    rw [show ((n : Int) + 1) = ((n + 1 : Nat) : Int) by omega]
    exact atI_of (List.getElem?_eq_getElem hn)
  have := List.pairwise_iff_getElem.mp hx n (n + 1) (by omega) hn (by omega)
  have e : decide (xs[n] < xs[n + 1]) = true := decide_eq_true this
  rw [← e]
  exact ge_c (gc_lt (ge_ixQ (ge_v (n := 0) rfl rfl hv) (ge_vi (n := 1) rfl rfl) (atI_of (List.getElem?_eq_getElem (by omega)))) (ge_ixQ (ge_v (n := 0) rfl rfl hv) (ge_add (ge_vi (n := 1) rfl rfl) ge_int) h2))
end
end K97

-- part K97c
namespace K97
open PySem PySem.Spec PyProof.Rows L2 DL
structure Grp (g : List Int) : Prop where
  ne : g ≠ []
  ri : g.Pairwise (· < ·)
  bd : ∀ x ∈ g, 0 ≤ x ∧ x ≤ 29
  le : g.length ≤ 6
structure Grps (G : List (List Int)) : Prop where
  le : G.length ≤ 60
  ok : ∀ g ∈ G, Grp g
abbrev pTrue {α : Type} : α → Bool → Prop := fun _ b => b = true
abbrev sAreGroups : Stmt := topS 16
abbrev sCheckGroups : Stmt := topS 17
theorem scAreGroups : FnScope ["value", "item"] ["value"] (defScope sAreGroups) := ⟨rfl, rfl, rfl, by decide +kernel, rfl, by decide +kernel, by decide +kernel⟩
theorem scCheckGroups : FnScope ["groups"] ["groups"] (defScope sCheckGroups) := ⟨rfl, rfl, rfl, by decide +kernel, rfl, by decide +kernel, by decide +kernel⟩
theorem line60 {n : Nat} (h : n ≤ 1000) : n ≤ sizeLine := Nat.le_trans h (by decide)
section
variable {P : Program} {w : World} {K : PySem.W.Frag} {mg : Str → Option Value} {base : Heap}
abbrev FIsWhole (P : Program) (w : World) (K : PySem.W.Frag) (mg : Str → Option Value) (base : Heap) : Prop := Fn P w K mg base 1 "is_whole" sIsWhole ["value"] (sp1 rI rB (fun _ => True) pTrue)
abbrev FFromTo (P : Program) (w : World) (K : PySem.W.Frag) (mg : Str → Option Value) (base : Heap) : Prop := Fn P w K mg base 2 "is_from_to" sFromTo ["value", "low", "high"] (sp3 rI rI rI rB (fun _ _ _ => True) (fun x l h b => b = (decide (l ≤ x) && decide (x ≤ h))))
abbrev FListed {α : Type} (r : Rep α) (P : Program) (w : World) (K : PySem.W.Frag) (mg : Str → Option Value) (base : Heap) : Prop := Fn P w K mg base 1 "is_listed" sListed ["value"] (sp1 (rQ r) rB (fun _ => True) pTrue)
abbrev FRising (P : Program) (w : World) (K : PySem.W.Frag) (mg : Str → Option Value) (base : Heap) : Prop := Fn P w K mg base 1 "are_rising" sRising ["items"] (sp1 (rQ rI) rB (fun xs => xs.Pairwise (· < ·) ∧ xs.length ≤ 1000) pTrue)
abbrev FIsGroup (P : Program) (w : World) (K : PySem.W.Frag) (mg : Str → Option Value) (base : Heap) : Prop := Fn P w K mg base 3 "is_group" sIsGroup ["value"] (sp1 (rQ rI) rB Grp pTrue)
abbrev FAreGroups (P : Program) (w : World) (K : PySem.W.Frag) (mg : Str → Option Value) (base : Heap) : Prop := Fn P w K mg base 4 "are_groups" sAreGroups ["value"] (sp1 (rL (rL rI)) rB Grps pTrue)
abbrev FCheckGroups (P : Program) (w : World) (K : PySem.W.Frag) (mg : Str → Option Value) (base : Heap) : Prop := Fn P w K mg base 5 "check_groups" sCheckGroups ["groups"] (sp1 (fz (rL (rL rI))) rN Grps (fun _ _ => True))
theorem fn_is_group {f : Addr} {fd : FuncData} (T : Txt mg) (cL : FListed rI P w K mg base) (cF : FFromTo P w K mg base) (cR : FRising P w K mg base) (hF : Fun K "is_group" "is_group" sIsGroup f fd) (hm : mg "is_group" = some (.ref f)) (hb : Binds K fd ["value"] []) : FIsGroup P w K mg base := by
  refine fn_mk hF hm hb scIsGroup sp1_len fun cdv A outer s H vs Q E hr ⟨F, cs, v, g, e, S, hv, hg, k⟩ => ?_
  subst e
  have h0 : (g.length : Int) ≠ 0 := by
    have := hg.ne
    cases g with
    | nil => exact absurd rfl this
    | cons x r => simp only [List.length_cons]; omega
  have hlen := hg.le
  refine wss_cons (ws_ifF ?_ S fun H2 S2 => wss_nil (wss_one (ws_retB (p := true) (ge_call1u cR hr rfl (ge_v (n := 0) rfl rfl hv) ⟨hg.ri, by omega⟩ fun _ h => h) S2 fun H3 S3 => k true _ F H3 (Le.refl _).one S3 ⟨rfl⟩ rfl)))
  refine GW.to (gw_or (p := false) (q := false) (gt_not (p := true) (gt_of (ge_call1u cL hr rfl (ge_v (n := 0) rfl rfl hv) True.intro fun _ h => h))) fun _ =>
    gw_or (p := false) (q := false) (gt_is (decide_eq_false h0) (gt_c (gc_eq (ge_lenQ rfl T.len (ge_v (n := 0) rfl rfl hv)) ge_int))) fun _ => gw_or1 (gt_not (p := true) (gt_of ?_)))
  refine ge_is (all_true g) (ge_all rfl rfl T.all (GE.un ?_))
  refine ge_lc0 (own := [("item", 1)]) (fun _ => true) rfl scIsGroup.nd (blkOk_by (by kernel_rfl)) (gi_v (n := 0) rfl rfl hv) (Sub.refl _) (fun _ _ _ _ _ => gb_i scIsGroup.nd (i := 1) rfl (.inl rfl)) (by decide) ?_ (line60 (by omega))
  rintro F1 v1 x σ1 l1 hx rfl s0 H0 C cl fp
  have hbd := hg.bd x hx
  exact ge_call3u cF hr rfl (ge_vi (n := 1) rfl rfl) ge_int (ge_sub (ge_gi rfl T.mp) ge_int) True.intro fun _ h => by rw [h, decide_eq_true hbd.1, decide_eq_true (by omega)]; rfl
end
end K97

-- part K97d
namespace K97
open PySem PySem.Spec PyProof.Rows L2 DL
abbrev sLowest : Stmt := topS 18
abbrev sWithPart : Stmt := topS 19
theorem scLowest : FnScope ["top", "bottom", "one", "other"] ["top", "bottom"] (defScope sLowest) := ⟨rfl, rfl, rfl, by decide +kernel, rfl, by decide +kernel, by decide +kernel⟩
theorem scWithPart : FnScope ["share", "many"] ["share", "many"] (defScope sWithPart) := ⟨rfl, rfl, rfl, by decide +kernel, rfl, by decide +kernel, by decide +kernel⟩
/-- top / bottom in lowest terms -/
def low (t b : Int) : Int × Int := (t / (Nat.gcd t.natAbs b.natAbs : Int), b / (Nat.gcd t.natAbs b.natAbs : Int))
section
variable {P : Program} {w : World} {K : PySem.W.Frag} {mg : Str → Option Value} {base : Heap}
abbrev FLowest (P : Program) (w : World) (K : PySem.W.Frag) (mg : Str → Option Value) (base : Heap) : Prop := Fn P w K mg base 1 "lowest" sLowest ["top", "bottom"] (sp2 rI rI (rT2 rI rI) (fun t b => 0 < b ∧ b < 1000000) (fun t b y => y = low t b))
abbrev FWithPart (P : Program) (w : World) (K : PySem.W.Frag) (mg : Str → Option Value) (base : Heap) : Prop := Fn P w K mg base 2 "with_part" sWithPart ["share", "many"] (sp2 (rT2 rI rI) rI (rT2 rI rI) (fun s m => 0 < s.2 ∧ s.2 ≤ 60 ∧ 0 < m ∧ m ≤ 6) (fun s m y => y = low (s.1 * m + s.2) (s.2 * m)))
theorem fn_are_groups {f : Addr} {fd : FuncData} (T : Txt mg) (cL : FListed (rL rI) P w K mg base) (cG : FIsGroup P w K mg base) (hF : Fun K "are_groups" "are_groups" sAreGroups f fd) (hm : mg "are_groups" = some (.ref f)) (hb : Binds K fd ["value"] []) : FAreGroups P w K mg base := by
  refine fn_mk hF hm hb scAreGroups sp1_len fun cdv A outer s H vs Q E hr ⟨F, cs, v, G, e, S, hv, hg, k⟩ => ?_
  subst e
  have hl := hg.le
  refine wss_one (ws_retB (p := true) ?_ S fun H2 S2 => k true _ F H2 (Le.refl _).one S2 ⟨rfl⟩ rfl)
  refine ge_and (p := true) (ge_call1u cL hr rfl (GE.asQ (ge_v (n := 0) rfl rfl hv)) True.intro fun _ h => h) fun _ => ge_and (p := true) (ge_c (gc_is (decide_eq_true (by omega)) (gc_le (ge_lenL rfl T.len (ge_v (n := 0) rfl rfl hv)) (ge_gi rfl T.mgr)))) fun _ => ge_and1 ?_
  refine ge_is (all_true G) (ge_all rfl rfl T.all (GE.un (ge_lc0 (own := [("item", 1)]) (fun _ => true) rfl scAreGroups.nd (blkOk_by (by kernel_rfl)) (gi_v (n := 0) rfl rfl hv.asQ) (Sub.refl _) (fun _ _ _ _ _ => gb_n (rL rI) scAreGroups.nd (i := 1) rfl (.inl rfl)) (by decide) ?_ (line60 (by omega)))))
  rintro F1 v1 x σ1 l1 hx ⟨h1, rfl⟩ s0 H0 C cl fp
  exact ge_call1u cG hr rfl (GE.asQ (ge_v (n := 1) rfl rfl h1)) (hg.ok x hx) fun _ h => h
theorem fn_check_groups {f : Addr} {fd : FuncData} (T : Txt mg) (cG : FAreGroups P w K mg base) (hF : Fun K "check_groups" "check_groups" sCheckGroups f fd) (hm : mg "check_groups" = some (.ref f)) (hb : Binds K fd ["groups"] []) : FCheckGroups P w K mg base := by
  refine fn_mk hF hm hb scCheckGroups sp1_len fun cdv A outer s H vs Q E hr ⟨F, cs, v, G, e, S, hv, hg, k⟩ => ?_
  subst e
  refine wss_one (ws_ifF (gt_not (p := true) (gt_of (ge_call1u cG hr rfl (GE.un (ge_v (n := 0) rfl rfl hv)) hg fun _ h => h))) S fun H2 S2 => wss_nil (k () _ F H2 (Le.refl _).one S2 ⟨rfl⟩ True.intro))
theorem gcd_step {a b : Int} (ha : 0 ≤ a) (hb : 0 < b) : Nat.gcd b.natAbs (a % b).natAbs = Nat.gcd a.natAbs b.natAbs := by
  obtain ⟨m, rfl⟩ := Int.eq_ofNat_of_zero_le ha
  obtain ⟨n, rfl⟩ := Int.eq_ofNat_of_zero_le (Int.le_of_lt hb)
  rw [← Int.natCast_emod]
  simp only [Int.natAbs_natCast]
  rw [Nat.gcd_comm n (m % n), ← Nat.gcd_rec n m, Nat.gcd_comm]
theorem fn_lowest {f : Addr} {fd : FuncData} (T : Txt mg) (hF : Fun K "lowest" "lowest" sLowest f fd) (hm : mg "lowest" = some (.ref f)) (hb : Binds K fd ["top", "bottom"] []) : FLowest P w K mg base := by
  refine fn_mk hF hm hb scLowest sp2_len fun cdv A outer s H vs Q E hr ⟨F, cs, v, t, v2, b, e, S, ⟨hv⟩, ⟨hv2⟩, ⟨hb0, hb1⟩, k⟩ => ?_
  subst e
  obtain rfl : v = .int t := hv
  obtain rfl : v2 = .int b := hv2
  refine wss_cons (ws_par rfl scLowest.nd (n := 2) (m := 3) rfl rfl (by decide) rfl rfl (GE.runI (ge_abs rfl T.abs (ge_vi (n := 0) rfl rfl)) S fun H2 S2 => GE.runI (ge_vi (n := 1) rfl rfl) S2 fun H3 S3 => ?_))
  refine wss_cons (ws_while (ι := Int × Int) (fun i σ H => σ = [some (.int t), some (.int b), some (.int i.1), some (.int i.2)] ∧ Sta F cs H ∧ 0 ≤ i.1 ∧ 0 ≤ i.2 ∧ Nat.gcd i.1.natAbs i.2.natAbs = Nat.gcd t.natAbs b.natAbs) (fun i => i.2.toNat) (if t < 0 then -t else t, b) PassesOwn.never ⟨rfl, S3, by dsimp only; split <;> omega, by dsimp only; omega, by dsimp only; split <;> simp [Int.natAbs_neg]⟩ ?_)
  rintro ⟨i, j⟩ σ H4 ⟨rfl, S4, hi, hj, hg⟩
  refine (gt_c (gc_gt (ge_vi (n := 3) rfl rfl) ge_int)).run S4 fun H5 S5 => ite2 (fun h => ?_) (fun h => ?_)
  · have hj0 : 0 < j := of_decide_eq_true h
    refine wss_one (ws_par rfl scLowest.nd (n := 2) (m := 3) rfl rfl (by decide) rfl rfl (GE.runI (ge_vi (n := 3) rfl rfl) S5 fun H6 S6 => GE.runI (ge_mod (ge_vi (n := 2) rfl rfl) (ge_vi (n := 3) rfl rfl) hj0) S6 fun H7 S7 => ⟨(j, i % j), ?_, rfl, S7, hj, Int.emod_nonneg _ (by omega), ?_⟩))
    · have := Int.emod_lt_of_pos i hj0
      have := Int.emod_nonneg i (show j ≠ 0 by omega)
      show (i % j).toNat < j.toNat
      omega
    · rw [← hg]; exact gcd_step hi hj0
  · have hj0 : j = 0 := by
      have : ¬ (0 < j) := fun q => h (decide_eq_true q)
      dsimp only at hj
      omega
    subst hj0
    have hi' : i = (Nat.gcd t.natAbs b.natAbs : Int) := by
      rw [← hg]
      simp only [Int.natAbs_zero, Nat.gcd_zero_right]
      dsimp only at hi
      omega
    have hpos : 0 < i := by
      rw [hi']
      have : 0 < Nat.gcd t.natAbs b.natAbs := Nat.gcd_pos_of_pos_right _ (by omega)
      omega
    have hle : i ≤ b := by
      rw [hi']
      have : Nat.gcd t.natAbs b.natAbs ≤ b.natAbs := Nat.gcd_le_right _ (by omega)
      omega
    refine wss_one (ws_ret (ge_tup2 (ge_fdiv (ge_vi (n := 0) rfl rfl) (ge_vi (n := 2) rfl rfl) ⟨hpos, by omega⟩) (ge_fdiv (ge_vi (n := 1) rfl rfl) (ge_vi (n := 2) rfl rfl) ⟨hpos, by omega⟩)) S5 fun v2 F2 H6 l6 S6 h6 => k _ v2 F2 H6 l6 S6 ⟨h6.h⟩ (by
      show (t / i, b / i) = low t b
      unfold low
      rw [← hi']))
end
end K97

-- part DLh
/-! DL, eighth part: sorted(d.items()) with int keys. -/
namespace DL.SI
open PySem PySem.W PySem.Calls PyProof.Rows PyProof.V PySem.Spec
def intOf : Option Value → Int
  | some (.int i _) => i
  | _ => 0
def keyI (h : Heap) (v : Value) : Int := intOf (DT.seqAt0 h (DT.refOf (some v)))
def PairI (h : Heap) (v : Value) (y : Int) (u : Value) : Prop := ∃ (a : Addr) (t : Tok), v = .ref a ∧ IsTup h a #[.int y t, u]
section
variable {prog : Program} {w : World} {A : Around} {E : Value → Shared → Prop} {s : Shared}
theorem PairI.tx {h : Heap} {v : Value} {y : Int} {u : Value} (x : PairI h v y u) : keyI h v = y := by
  obtain ⟨a, t, rfl, h1⟩ := x
  show intOf (DT.seqAt0 h a) = y
  rw [DT.seqAt0_of h1]
  rfl
theorem firsts_of {h : Heap} : ∀ vs : List Value, (∀ v ∈ vs, ∃ y u, PairI h v y u) → ∃ fs : List Value, KatTups h vs fs ∧ fs.length = vs.length ∧ ∀ f ∈ fs, ∃ (q : Int) (t : Tok), f = Value.int q t
  | [], _ => ⟨[], KatTups.nil, rfl, fun f hf => by simp at hf⟩
  | v :: vs, x => by
    obtain ⟨fs, k, hl, hi⟩ := firsts_of vs fun u hu => x u (List.mem_cons_of_mem _ hu)
    obtain ⟨y, u, a, t, rfl, ⟨o, ho, hc, n, hd⟩⟩ := x v (List.mem_cons_self ..)
    refine ⟨.int y t :: fs, KatTups.cons ho hc hd rfl k, by rw [List.length_cons, List.length_cons, hl], fun f hf => ?_⟩
    rcases List.mem_cons.mp hf with rfl | hf
    · exact ⟨y, t, rfl⟩
    · exact hi f hf
theorem kind_ii {vs : List Value} (h2 : 2 ≤ vs.length) (x : ∀ v ∈ vs, ∃ y u, PairI s.heap v y u) (hd : ∀ v ∈ vs, ∀ v' ∈ vs, keyI s.heap v = keyI s.heap v' → v = v') (Q : SortKind → Shared → Prop)
    (h : ∀ κ, TS.Cmp prog w A s κ (pairsOf vs) (fun v => keyI s.heap v) → Q κ s) : wpAny (model prog w) A (keyKind' vs.toArray) Q E s := by
  obtain ⟨fs, k, hl, hi⟩ := firsts_of vs x
  refine kat_kind (T := Value.type "int") k (by omega) (fun f hf => ?_) rfl (h _ ?_)
  · obtain ⟨q, t, rfl⟩ := hi f hf
    exact .now
  · generalize (Value.type "int" != Value.type "tuple") = bb
    intro p q hp hq Q' E' hQ
    rw [pairsOf_toList] at hp hq
    have mp := (mem_zip_self hp).2
    have mq := (mem_zip_self hq).2
    obtain ⟨y, u, py⟩ := x _ mp
    obtain ⟨z, u', pz⟩ := x _ mq
    have hQ' : Q' (decide (y < z)) s := by
      have hQ2 : Q' (decide (keyI s.heap p.1 < keyI s.heap q.1)) s := hQ
      rw [py.tx, pz.tx] at hQ2
      exact hQ2
    have same : y = z → p.1 = q.1 := fun e => hd _ mp _ mq (by rw [py.tx, pz.tx, e])
    obtain ⟨a, t, e1, ⟨o, ho, hc, n, hd⟩⟩ := py
    obtain ⟨a', t', e2, ⟨o', ho', hc', n', hd'⟩⟩ := pz
    have same' : y = z → u = u' := fun e => by
      have := same e
      rw [e1, e2] at this
      cases this
      rw [ho] at ho'
      cases ho'
      rw [hd] at hd'
      injection hd' with z1 _
      have z2 := congrArg Array.toList z1
      injection z2 with _ z3
      injection z3 with z4 _
    rw [e1, e2]
    refine kat_lt ho hd ho' hd' ?_
    show KatLex prog w A bb false Q' [(Value.int y t, Value.int z t'), (u, u')] 0 s
    refine kat_cons (wpAny_eqBool_int ?_)
    refine kat_go (fun e0 => ?_) (fun e0 => ?_)
    · have e : y = z := by simpa using e0
      have irr : decide (y < z) = false := by rw [e]; simp
      rw [irr] at hQ'
      have euu := same' e
      subst euu
      refine kat_yes (kat_cons (SeqAt.EqAt.same u prog w _ _ ?_))
      exact kat_yes (kat_nil hQ')
    · exact kat_no (TS.oneLt_ints _ hQ')
end
end DL.SI
namespace DL
open PySem PySem.Spec PyProof.Rows L2 L2.DX
section
variable {X : Cx}
theorem pairs_get {knd : KeyKind X.prog X.w Key} : ∀ {es : List DictEntry} {kvs : List (Key × Value)} {j : Nat} {e : DictEntry}, Pairs knd es kvs → es[j]? = some e → ∃ kv, kvs[j]? = some kv ∧ knd.is kv.1 e.key = true ∧ e.val = kv.2
  | _, _, j, e, .nil, h => by simp at h
  | _, _, 0, e, .cons h1 h2 _, h => by
    simp only [List.getElem?_cons_zero] at h
    cases h
    exact ⟨_, rfl, h1, h2⟩
  | _, _, j + 1, e, .cons _ _ t, h => by
    simp only [List.getElem?_cons_succ] at h
    obtain ⟨kv, a, b⟩ := pairs_get t h
    exact ⟨kv, by rw [List.getElem?_cons_succ]; exact a, b⟩
def rItemsK : V → List V → Hp → VK → Prop := fun x xs H Q => ∃ (a : Addr) (kvs : List (Key × V)), x = .ref a ∧ xs = [] ∧ Rd H a (.dK kvs) ∧ ∀ p, H p = none → Q (.ref p) (upd H p (itemsO p a))
theorem mt_itemsK : MtR X "dict.items" rItemsK := by
  intro pins s σ H x xs v us Q I rx rxs h
  obtain ⟨a, kvs, rfl, rfl, ha, q⟩ := h
  cases rx
  cases rxs
  obtain ⟨z, hd, xs', rel, o, es, ep, ho, hx, hdat, _⟩ := dk_rd I.hok ha
  refine DT.callItems (es := es) (ep := ep) hd ⟨o, ho, hx, hdat⟩ ?_
  have hf : H s.heap.objs.size = none := I.hok.fresh (Nat.le_refl _)
  exact ⟨.ref s.heap.objs.size, upd H s.heap.objs.size (itemsO s.heap.objs.size a), I.laid (t' := s.toks) (fun b u e => Heap.get?_push_of_some _ e) (Nat.le_refl _) (itemsO_ok (Heap.get?_push_size _ rfl)), rfl, q _ hf⟩
def inK (e : Int × V) : Key × V := (.inl e.1, e.2)
def rSortIK : List V → Hp → VK → Prop := fun vs H Q => ∃ (p a : Addr) (ks : List (Int × V)), vs = [.ref p] ∧ H p = some (itemsO p a) ∧ Rd H a (.dK (ks.map inK)) ∧ ks.length < 64 ∧
  ∀ (H' : Hp) (l : Addr) (ps : List (Addr × Int × V)), (ks.map (·.1)).Nodup → (∀ b o, H b = some o → H' b = some o) → (ps.map (·.2)).Perm ks → (ps.map (·.2)).Pairwise (fun e f => e.1 ≤ f.1) → H' l = some (.lst (ps.map fun z => V.ref z.1)) → H l = none →
    (∀ z ∈ ps, H' z.1 = some (.tup [.int z.2.1, z.2.2]) ∧ H z.1 = none) → Q (.ref l) H'
theorem cr_sortedIK (hc : X.calm = true) : CallR X (.builtin "sorted") rSortIK := by
  intro pins s σ H xs us Q I r h
  obtain ⟨p, a, ks, rfl, hp, ha, h64, q⟩ := h
  obtain rfl := Vals.ref1 r
  have view : s.heap.IsItemsView p a := (show ObjOk X.prog X.w H s.heap p (itemsO p a) from I.hok p _ hp).1
  obtain ⟨z, hd, xs', rel, o, es, ep, ho, hx, hdat, _, hes, hn⟩ := dk_rd I.hok ha
  have l1 : (ks.map inK).length = xs'.length := Paired.length rel
  rw [List.length_map] at l1
  have l2 : es.size = xs'.length := by rw [← Array.length_toList]; exact hes.length
  have hkeys : xs'.map (·.1) = (ks.map (·.1)).map Sum.inl := by
    rw [← rel.keys, List.map_map, List.map_map]; rfl
  have hnd : (ks.map (·.1)).Nodup := by
    rw [hkeys] at hn
    exact (List.pairwise_map.mp hn).imp fun h e => h (congrArg _ e)
  have hh : X.A.handled = none := I.ok.hd hc
  refine DT.sortedI (es := es) (ep := ep) hh view ⟨o, ho, hx, hdat⟩ (by rw [sizeLine_eq]; omega) fun h' tk as hk hlt hl hG => ?_
  have lak : as.length = ks.length := by omega
  have nd : as.Nodup := List.Pairwise.imp (fun h => Nat.ne_of_lt h) hG.rise
  have pr : ∀ (j : Nat) (b : Addr), as[j]? = some b → ∃ (e : Int × V) (t : Tok) (u : Value), ks[j]? = some e ∧ RelV e.2 u ∧ h'.get? b = some { cls := .type "tuple", data := .seq #[Value.int e.1 t, u] } := by
    intro j b hj
    obtain ⟨en, he, hg⟩ := hG.pairs j b hj
    obtain ⟨kv, hxj, r1, r2⟩ := pairs_get hes (by rw [Array.getElem?_toList]; exact he)
    obtain ⟨e0, he0, r3, r4⟩ := pget rel hxj
    rw [List.getElem?_map] at he0
    cases hkj : ks[j]? with
    | none =>
      rw [hkj] at he0
      exact nomatch (show (none : Option (Key × V)) = some e0 from he0)
    | some e =>
      rw [hkj] at he0
      have ee : inK e = e0 := Option.some.inj he0
      rw [← ee] at r3 r4
      rcases keyIs_shape (show keyIs kv.1 en.key = true from r1) with ⟨i, t, ek, ev⟩ | ⟨i, t, ek, ev⟩
      · have : Sum.inl e.1 = Sum.inl i := r3.trans ek
        have ei : e.1 = i := Sum.inl.inj this
        refine ⟨e, t, kv.2, rfl, r4, ?_⟩
        rw [hg, ev, ← ei, r2]
      · have : (Sum.inl e.1 : Key) = Sum.inr i := r3.trans ek
        exact nomatch this
  have hob : (h'.push { cls := .type "list", data := .seq (as.map Value.ref).toArray }).get? h'.objs.size = some (seqObj "list" (as.map Value.ref).toArray 0) := Heap.get?_push_size _ rfl
  have kb : ∀ b o, s.heap.get? b = some o → (h'.push { cls := .type "list", data := .seq (as.map Value.ref).toArray }).get? b = some o := fun b o e => Heap.get?_push_of_some _ (hk b o e)
  have ne0 : ∀ b o, h'.get? b = some o → b ≠ h'.objs.size := fun b o e => Nat.ne_of_lt (Heap.lt_size e)
  generalize hh2 : h'.push { cls := .type "list", data := .seq (as.map Value.ref).toArray } = h2 at hob kb ⊢
  have ka : ∀ b o, h'.get? b = some o → h2.get? b = some o := fun b o e => by rw [← hh2]; exact Heap.get?_push_of_some _ e
  have pin : ∀ (j : Nat) (b : Addr), as[j]? = some b → ∃ (e : Int × V) (u : Value), ks[j]? = some e ∧ SI.PairI (TS.midHeap h2 h'.objs.size (as.map Value.ref)) (.ref b) e.1 u := by
    intro j b hj
    obtain ⟨e, t, u, he, _, hg⟩ := pr j b hj
    exact ⟨e, u, he, b, t, rfl, ⟨_, TS.midHeap_old (ne0 _ _ hg) (ka _ _ hg), rfl, 0, rfl⟩⟩
  have tx : ∀ (j : Nat) (b : Addr) (e : Int × V), as[j]? = some b → ks[j]? = some e → SI.keyI (TS.midHeap h2 h'.objs.size (as.map Value.ref)) (.ref b) = e.1 := by
    intro j b e hj he
    obtain ⟨e', u, he', hp'⟩ := pin j b hj
    have ee : e' = e := Option.some.inj (he'.symm.trans he)
    rw [← ee]
    exact hp'.tx
  have at_ : ∀ v ∈ as.map Value.ref, ∃ (j : Nat) (b : Addr) (e : Int × V), v = .ref b ∧ as[j]? = some b ∧ ks[j]? = some e := by
    intro v hv'
    obtain ⟨b, hb, rfl⟩ := List.mem_map.mp hv'
    obtain ⟨j, hj⟩ := List.mem_iff_getElem?.mp hb
    obtain ⟨e, _, _, he, _⟩ := pr j b hj
    exact ⟨j, b, e, rfl, hj, he⟩
  refine wpAny_call_entry PyProof.Rows.slot_list_sort ⟨_, hob, rfl⟩ PyProof.Rows.entry_list_sort
    (SK.plain_sort (s := { s with heap := h2, toks := tk }) (r := fun v => SI.keyI (TS.midHeap h2 h'.objs.size (as.map Value.ref)) v) hob (by rw [List.length_map]; omega) (fun h2' Qk hQk => ?_) fun ps out o1 o2 o3 => ⟨.none, rfl, ?_⟩) (PyProof.Rows.args_list_sort _)
  · refine SI.kind_ii (s := { s with heap := TS.midHeap h2 h'.objs.size (as.map Value.ref), toks := tk }) h2' (fun v hv' => ?_) (fun v hv' u hu' => ?_) Qk hQk
    · obtain ⟨j, b, e, rfl, hj, he⟩ := at_ v hv'
      obtain ⟨e', u, _, hp'⟩ := pin j b hj
      exact ⟨e'.1, u, hp'⟩
    · obtain ⟨j, b, e, rfl, hj, he⟩ := at_ v hv'
      obtain ⟨j2, b2, e2, rfl, hj2, he2⟩ := at_ u hu'
      show SI.keyI (TS.midHeap h2 h'.objs.size (as.map Value.ref)) (.ref b) = SI.keyI (TS.midHeap h2 h'.objs.size (as.map Value.ref)) (.ref b2) → _
      rw [tx j b e hj he, tx j2 b2 e2 hj2 he2]
      intro ee
      have m1 : (ks.map (·.1))[j]? = some e.1 := by rw [List.getElem?_map, he]; rfl
      have m2 : (ks.map (·.1))[j2]? = some e.1 := by rw [List.getElem?_map, he2, ee]; rfl
      have ej : j = j2 := (List.getElem?_inj (List.getElem?_eq_some_iff.mp m1).1 hnd).mp (m1.trans m2.symm)
      subst ej
      rw [hj] at hj2
      cases hj2
      rfl
  · show EP X pins σ Q (.ref h'.objs.size) { s with heap := sortedHeap h2 h'.objs.size (as.map Value.ref) out, toks := tk }
    obtain ⟨zs, pz, ez⟩ := perm_lift (fun z : Addr × Int × V => (Value.ref z.1, Value.ref z.1)) o2 (as.zip ks) (zip_self Value.ref as ks lak)
    have idx : ∀ z ∈ zs, ∃ j : Nat, as[j]? = some z.1 ∧ ks[j]? = some z.2 := by
      intro z' hz'
      obtain ⟨j, hj⟩ := List.mem_iff_getElem?.mp (pz.mem_iff.mp hz')
      exact ⟨j, List.getElem?_zip_eq_some.mp hj⟩
    have hout : out.toList = zs.map fun z => Value.ref z.1 := by
      rw [o1, ← ez, List.map_map]
      all_goals rfl
    have hperm : (zs.map (·.2)).Perm ks := by
      have e := pz.map (·.2)
      have m2 : (as.zip ks).map (·.2) = ks := List.map_snd_zip (by rw [lak]; exact Nat.le_refl _)
      rw [m2] at e
      exact e
    have hsort : (zs.map (·.2)).Pairwise (fun e f => e.1 ≤ f.1) := by
      rw [← ez, List.pairwise_map] at o3
      rw [List.pairwise_map]
      refine List.Pairwise.imp_of_mem (fun {x y} hx hy h => ?_) o3
      obtain ⟨j, j1, j2⟩ := idx x hx
      obtain ⟨i, i1, i2⟩ := idx y hy
      have h' : SI.keyI (TS.midHeap h2 h'.objs.size (as.map Value.ref)) (.ref x.1) ≤ SI.keyI (TS.midHeap h2 h'.objs.size (as.map Value.ref)) (.ref y.1) := h
      rw [tx j _ _ j1 j2, tx i _ _ i1 i2] at h'
      exact h'
    have kF : ∀ b o, b ≠ h'.objs.size → h2.get? b = some o → (sortedHeap h2 h'.objs.size (as.map Value.ref) out).get? b = some o := fun b o hb e => (PyProof.Rows.sortedHeap_old hb (Heap.lt_size e)).trans e
    have kS : ∀ b o, s.heap.get? b = some o → (sortedHeap h2 h'.objs.size (as.map Value.ref) out).get? b = some o := fun b o e => kF b o (ne0 _ _ (hk b o e)) (kb b o e)
    obtain ⟨eF, heF⟩ := PyProof.Rows.sortedHeap_at (vs := as.map Value.ref) (out := out) hob
    have I1 : Inv X pins σ H { s with heap := sortedHeap h2 h'.objs.size (as.map Value.ref) out, toks := tk } := I.kept (t' := tk) kS
    have hn0 : H h'.objs.size = none := I.hok.fresh (Nat.le_of_lt hlt)
    have hlen : (zs.map fun z => V.ref z.1).length ≤ sizeLine := by
      have e := hperm.length_eq
      rw [List.length_map] at e
      rw [List.length_map, sizeLine_eq]
      omega
    have rv : Vals (zs.map fun z => V.ref z.1) out.toList := by
      rw [hout]
      exact vals_maps (fun z : Addr × Int × V => V.ref z.1) (fun z => Value.ref z.1) zs fun _ _ => rfl
    have I2 : Inv X pins σ (upd H h'.objs.size (.lst (zs.map fun z => V.ref z.1))) { s with heap := sortedHeap h2 h'.objs.size (as.map Value.ref) out, toks := tk } :=
      I1.take (h' := sortedHeap h2 h'.objs.size (as.map Value.ref) out) (t' := tk) (fun b ob _ e => e) (I.fpOk (Nat.le_of_lt hlt) hn0) ⟨hlen, out.toList, eF, rv, heF⟩
    obtain ⟨H2, I3, g, qt⟩ := takeT (P := fun b vs => ∃ (j : Nat) (e : Int × V), as[j]? = some b ∧ ks[j]? = some e ∧ vs = [.int e.1, e.2]) I as _ I2 nd fun b hb => by
      obtain ⟨j, hj⟩ := List.mem_iff_getElem?.mp hb
      obtain ⟨e, t, u, he, ru, hg⟩ := pr j b hj
      have hbl : s.heap.objs.size ≤ b := Nat.le_of_lt (hG.above b hb)
      refine ⟨hbl, ?_, [.int e.1, e.2], ⟨j, e, hj, he, rfl⟩, fun H3 => ⟨(by rw [sizeLine_eq]; show 2 ≤ 16777216; omega), [Value.int e.1 t, u], .cons ⟨t, rfl⟩ (.cons ru .nil), ⟨_, kF _ _ (ne0 _ _ hg) (ka _ _ hg), rfl, 0, rfl⟩⟩⟩
      rw [upd_ne (ne0 _ _ hg)]
      exact I.hok.fresh hbl
    have gr : ∀ b o, H b = some o → H2 b = some o := fun b o e => g b o (by rw [upd_ne (ne_of_none e hn0)]; exact e)
    refine ⟨.ref h'.objs.size, H2, I3, rfl, q H2 h'.objs.size zs hnd gr hperm hsort (g _ _ upd_same) hn0 fun z' hz' => ?_⟩
    obtain ⟨i, i1, i2⟩ := idx z' hz'
    obtain ⟨vs, ⟨j, e, j1, j2, ev⟩, hH⟩ := qt z'.1 (List.mem_of_getElem? i1)
    have eij : i = j := (List.getElem?_inj (List.getElem?_eq_some_iff.mp i1).1 nd).mp (i1.trans j1.symm)
    subst eij
    have ee : e = z'.2 := Option.some.inj (j2.symm.trans i2)
    rw [ev, ee] at hH
    exact ⟨hH, I.hok.fresh (Nat.le_of_lt (hG.above _ (List.mem_of_getElem? i1)))⟩
end
/-! ### a method with no argument of a dict that may be locked -/
section
variable {X : Cx} {o : Expr} {to : TE} {name : Str} {apos cpos : Pos} {id : String} {r : V → List V → Hp → VK → Prop}
theorem pe_dm0 (pa : PlainAttrs "dict") (slot : Slot "dict" name id) (hty : typeOf (.builtin id) = pure (.type "method_descriptor")) (hm : MtR X id r) (ho : PE X o to)
    (hbase : attributeBase o name X.env (eval o X.env) = eval o X.env := by rfl) (hline : (apos.endLine == cpos.line) = true := by rfl) :
    PE X (.Call (.Attribute o name apos) [] [] cpos) (fun σ H Q => to σ H fun x H1 => (∃ d kvs, x = .ref d ∧ Rd H1 d (.dK kvs)) ∧ r x [] H1 Q) := by
  refine ⟨fun pins s σ H Q I h => ?_⟩
  refine wpAny_Call_method0_late hbase hline (thn (ho.run pins s σ H _ I h) fun v s1 ⟨x, H1, I1, r1, ⟨d, kvs, ex, rd⟩, q1⟩ => ?_)
  subst ex
  cases r1
  obtain ⟨_, _, _, _, ob, _, _, e, ex, _⟩ := dk_rd I1.hok rd
  exact ⟨"dict", id, pa, slot, hty, ⟨ob, e, ex.1⟩, fun a e2 => by cases e2; exact ⟨ob, e, ex.2.1⟩, Calls.callWith_builtin rfl (PySem.evalArgs_none (hm pins s1 σ H1 (.ref d) [] (.ref d) [] Q I1 rfl .nil q1))⟩
end
/-! ### the rules by data -/
theorem Sta.grow {F H H' : Hp} {cs : Cs} (S : Sta F cs H) (g : ∀ b o, H b = some o → H' b = some o) : ∃ F', Le1 F F' ∧ Sta F' cs H' ∧ ∀ b, H b = none → F' b = H' b := by
  refine ⟨fun a => if H a = none then H' a else F a, ⟨fun a o e => ?_⟩, ⟨fun a o e => ?_, fun p hp => g _ _ (S.has p hp), fun p hp => ?_, S.nd⟩, fun b hb => if_pos hb⟩
  · have : H a ≠ none := fun z => by
      rcases S.le a o e with h | ⟨_, ob, h⟩ <;> rw [z] at h <;> cases h
    show (if H a = none then H' a else F a) = some o
    rw [if_neg this]
    exact e
  · have e : (if H a = none then H' a else F a) = some o := e
    by_cases h : H a = none
    · rw [if_pos h] at e
      exact .inl e
    · rw [if_neg h] at e
      rcases S.le a o e with h | ⟨d, ob, h⟩
      · exact .inl (g _ _ h)
      · exact .inr ⟨d, ob, g _ _ h⟩
  · have : H p.1 ≠ none := fun z => by rw [S.has p hp] at z; cases z
    show (if H p.1 = none then H' p.1 else F p.1) = none ∨ _
    rw [if_neg this]
    exact S.off p hp
/-- an assoc list by its keys -/
def srtK {α : Type} (xs : List (Int × α)) : List (Int × α) := xs.mergeSort (fun a b => decide (a.1 ≤ b.1))
theorem srtK_perm {α : Type} (xs : List (Int × α)) : (srtK xs).Perm xs := List.mergeSort_perm xs _
theorem srtK_sorted {α : Type} (xs : List (Int × α)) : (srtK xs).Pairwise (fun a b => a.1 ≤ b.1) := by
  have := List.pairwise_mergeSort (le := fun (a b : Int × α) => decide (a.1 ≤ b.1)) (fun a b c h1 h2 => by simp only [decide_eq_true_eq] at *; omega) (fun a b => by simp only [Bool.or_eq_true, decide_eq_true_eq]; omega) xs
  exact this.imp fun h => of_decide_eq_true h
theorem nodup_key {α : Type} {xs : List (Int × α)} (h : (xs.map (·.1)).Nodup) : ∀ {a b : Int × α}, a ∈ xs → b ∈ xs → a.1 = b.1 → a = b := by
  intro a b ha hb e
  obtain ⟨i, hi⟩ := List.mem_iff_getElem?.mp ha
  obtain ⟨j, hj⟩ := List.mem_iff_getElem?.mp hb
  have m1 : (xs.map (·.1))[i]? = some a.1 := by rw [List.getElem?_map, hi]; rfl
  have m2 : (xs.map (·.1))[j]? = some a.1 := by rw [List.getElem?_map, hj, e]; rfl
  have ej : i = j := (List.getElem?_inj (List.getElem?_eq_some_iff.mp m1).1 h).mp (m1.trans m2.symm)
  subst ej
  rw [hi] at hj
  exact Option.some.inj hj
theorem srtK_eq {α : Type} {xs ys : List (Int × α)} (h : ys.Perm xs) (s : ys.Pairwise (fun a b => a.1 ≤ b.1)) (nd : (xs.map (·.1)).Nodup) : ys = srtK xs := by
  refine List.Perm.eq_of_pairwise (le := fun a b => a.1 ≤ b.1) (fun a b ha hb h1 h2 => ?_) s (srtK_sorted xs) (h.trans (srtK_perm xs).symm)
  exact nodup_key nd (h.mem_iff.mp ha) ((srtK_perm xs).mem_iff.mp hb) (by omega)
section
variable {X : Cx} {σ : Sl} {F F0 : Hp} {cs cs0 : Cs} {e a b c : Expr} {pos : Pos} {α β γ : Type} {r : Rep α} {t : Rep β} {x : α} {y : β} {i j : Int} {p q : Bool}
theorem Ens.kvs {F : Hp} {r : Rep α} : ∀ {kvs : List (Key × V)} {xs : List (Int × α)}, Ens r F kvs xs → ∃ ks : List (Int × V), kvs = ks.map inK ∧ Paired (fun (k : Int × V) x => k.1 = x.1 ∧ r F [] k.2 x.2) ks xs := by
  intro kvs xs h
  induction h with
  | nil => exact ⟨[], rfl, .nil⟩
  | @cons a b l l2 h _ ih =>
    obtain ⟨ks, e, q⟩ := ih
    obtain ⟨k, v⟩ := a
    obtain ⟨h1, h2⟩ := h
    cases h1
    exact ⟨(b.1, v) :: ks, by rw [List.map_cons, ← e]; rfl, .cons ⟨rfl, h2⟩ q⟩
theorem paired_perm {α β : Type} {R : α → β → Prop} {xs xs' : List α} (p : xs'.Perm xs) : ∀ {ys : List β}, Paired R xs ys → ∃ ys', ys'.Perm ys ∧ Paired R xs' ys' := by
  induction p with
  | nil => intro ys h; exact ⟨ys, .refl _, h⟩
  | @cons x l1 l2 _ ih =>
    intro ys h
    cases h with
    | cons h t =>
      obtain ⟨ys', p1, q⟩ := ih t
      exact ⟨_ :: ys', p1.cons _, .cons h q⟩
  | swap x y l =>
    intro ys h
    cases h with
    | cons h t => cases t with
      | cons h2 t => exact ⟨_ :: _ :: _, List.Perm.swap .., .cons h2 (.cons h t)⟩
  | trans _ _ ih1 ih2 =>
    intro ys h
    obtain ⟨y1, p1, q1⟩ := ih2 h
    obtain ⟨y2, p2, q2⟩ := ih1 q1
    exact ⟨y2, p2.trans p1, q2⟩
theorem paired_map {α β γ : Type} {R : α → β → Prop} {R' : γ → β → Prop} {f : α → γ} {xs : List α} {ys : List β} (h : Paired R xs ys) (g : ∀ x ∈ xs, ∀ y, R x y → R' (f x) y) : Paired R' (xs.map f) ys := by
  induction h with
  | nil => exact .nil
  | cons h _ ih => exact .cons (g _ List.mem_cons_self _ h) (ih fun x hx => g x (List.mem_cons_of_mem _ hx))
theorem paired_keys {α β : Type} {R : Int × α → Int × β → Prop} : ∀ {xs : List (Int × α)} {ys : List (Int × β)}, Paired R xs ys → (∀ x y, R x y → x.1 = y.1) → xs.map (·.1) = ys.map (·.1)
  | _, _, .nil, _ => rfl
  | _, _, .cons h t, f => by rw [List.map_cons, List.map_cons, f _ _ h, paired_keys t f]
theorem paired_unmap {α β γ : Type} {R : γ → β → Prop} {f : α → γ} : ∀ {xs : List α} {ys : List β}, Paired R (xs.map f) ys → Paired (fun x y => R (f x) y) xs ys
  | [], _, h => by cases h; exact .nil
  | x :: xs, _, h => by cases h with
    | cons h t => exact .cons h (paired_unmap t)
/-- sorted(d.items()) -/
theorem ge_sortedIt {xs : List (Int × α)} {ap p2 pp : Pos} [s : Stable r] (hc : X.calm = true) (hg : Gl X "sorted") (hm : X.mg "sorted" = none) (ha : GE X σ F cs a (rD r) xs) (h64 : xs.length < 64)
    (hbase : attributeBase a "items" X.env (eval a X.env) = eval a X.env := by rfl) (hline : (ap.endLine == p2.line) = true := by rfl)
    (he : starEach [.Call (.Attribute a "items" ap) [] [] p2] X.env = (false, eval (.Call (.Attribute a "items" ap) [] [] p2) X.env) :: starEach [] X.env := by rfl) (hpl : (backTo pos (starEach [] X.env)).any (·.1) = false := by rfl) :
    GE X σ F cs (.Call (.Name "sorted" pp) [.Call (.Attribute a "items" ap) [] [] p2] [] pos) (fz (rL (rT2 rI r))) (srtK xs) := fun F1 cs1 H Q l1 u1 S q =>
  weB (pe_callB (cr_sortedIK hc) hg hm boot_sorted (pa_cons (pe_dm0 PySem.F.plainAttrs_dict PySem.F.slot_dict_items PySem.F.type_dict_items mt_itemsK peW hbase hline) pa_nil he) (by decide) (by decide) he hpl) (ha F1 cs1 H _ l1 u1 S fun v F2 H2 l2 S2 ⟨d, kvs, ev, hd, hp⟩ => by
    subst ev
    have rd := S2.rdD hd
    refine ⟨⟨d, kvs, rfl, rd⟩, d, kvs, rfl, rfl, rd, fun p hpn => ?_⟩
    obtain ⟨ks, ek, hq⟩ := Ens.kvs hp
    subst ek
    have S3 := S2.junk hpn (itemsO p d)
    have hdp : d ≠ p := by
      rintro rfl
      rcases rd with z | ⟨_, z⟩ <;> rw [hpn] at z <;> cases z
    have rd3 : Rd (upd H2 p (itemsO p d)) d (.dK (ks.map inK)) := by
      unfold Rd
      rw [upd_ne hdp]
      exact rd
    have hl : ks.length = xs.length := Paired.length hq
    refine ⟨p, d, ks, rfl, upd_same, rd3, by omega, fun H' l ps nd g pm srt hl' hln hz => ?_⟩
    obtain ⟨F3, l3, S4, hF⟩ := S3.grow g
    obtain ⟨ys, py, qy⟩ := paired_perm pm hq
    have hks : ks.map (·.1) = xs.map (·.1) := paired_keys hq fun _ _ h => h.1
    have hys : (ps.map (·.2)).map (·.1) = ys.map (·.1) := paired_keys qy fun _ _ h => h.1
    have srt2 : ys.Pairwise (fun a b => a.1 ≤ b.1) := by
      have : (ys.map (·.1)).Pairwise (· ≤ ·) := by rw [← hys, List.pairwise_map]; exact srt
      exact List.pairwise_map.mp this
    have ey : ys = srtK xs := srtK_eq py srt2 (by rw [← hks]; exact nd)
    subst ey
    refine q _ F3 H' (l2.trans l3.le) S4 ⟨l, _, rfl, .inl ((hF l hln).trans hl'), ?_⟩
    rw [show (ps.map fun z => V.ref z.1) = ps.map (fun z => V.ref z.1) from rfl]
    have qy2 : Paired (fun (z : Addr × Int × V) x => z.2.1 = x.1 ∧ r F2 [] z.2.2 x.2) ps (srtK xs) := paired_unmap qy
    exact paired_map qy2 fun z hzm x ⟨h1, h2⟩ => by
      obtain ⟨z1, z2⟩ := hz z hzm
      exact ⟨z.1, _, _, rfl, (hF _ z2).trans z1, by rw [h1]; rfl, s.up l3.le (Sub.refl _) h2⟩)
/-- sorted(d) -/
theorem ge_sortedD {xs : List (Int × α)} {pp : Pos} (hc : X.calm = true) (hg : Gl X "sorted") (hm : X.mg "sorted" = none) (ha : GE X σ F cs a (rD r) xs) (h64 : xs.length < 64)
    (he : starEach [a] X.env = (false, eval a X.env) :: starEach [] X.env := by rfl) (hpl : (backTo pos (starEach [] X.env)).any (·.1) = false := by rfl) :
    GE X σ F cs (.Call (.Name "sorted" pp) [a] [] pos) (fz (rL rI)) (srt (xs.map (·.1))) := fun F1 cs1 H Q l1 u1 S q =>
  weB (pe_callB (call_sortedDI hc) hg hm boot_sorted (pa_cons peW pa_nil he) (by decide) (by decide) he hpl) (ha F1 cs1 H _ l1 u1 S fun v F2 H2 l2 S2 ⟨d, kvs, ev, hd, hp⟩ => by
    obtain ⟨ks, ek, hq⟩ := Ens.kvs hp
    have hl : ks.length = xs.length := Paired.length hq
    have hks : ks.map (·.1) = xs.map (·.1) := paired_keys hq fun _ _ h => h.1
    refine ⟨d, kvs, ks.map (·.1), by rw [ev], S2.rdD hd, by rw [ek, List.map_map, List.map_map]; rfl, by rw [List.length_map]; omega, fun ys p hpm hsr hn => ?_⟩
    have e : ys = srt (xs.map (·.1)) := srt_eq (by rw [← hks]; exact hpm) hsr
    subst e
    exact q _ _ _ (l2.trans (S2.new hn _).1.le) (S2.new hn _).2 ⟨p, _, rfl, .inl upd_same, Els.ofInts _⟩)
/-- o.count(k) -/
theorem ge_count {ns : List Int} {ap : Pos} (ha : GE X σ F cs a (rL rI) ns) (hb : GE X σ F cs b rI i) 
    (hbase : attributeBase a "count" X.env (eval a X.env) = eval a X.env := by rfl)
    (hfew : ((backTo pos (starEach [b] X.env)).all (fun x => !x.1) && (backToKw pos (keywordEach [] X.env)).all (fun x => x.1.isSome) && decide (([b] : List Expr).length + ([] : List Keyword).length + (if ([] : List Keyword).isEmpty then 0 else 1) < 30)) = true := by rfl)
    (hline : (ap.endLine == pos.line) = true := by rfl) (hs : starEach [b] X.env = (false, eval b X.env) :: starEach [] X.env := by rfl) (hplain : (backTo pos (starEach [] X.env)).any (·.1) = false := by rfl) : GE X σ F cs (.Call (.Attribute a "count" ap) [b] [] pos) rI ((ns.count i : Nat) : Int) := fun F1 cs1 H Q l1 u1 S q =>
  weB (pe_bm PySem.F.plainAttrs_list PySem.F.slot_list_count PySem.F.type_list_count mt_lcount peW (pa_cons peW pa_nil hs) hbase hfew hline hs hplain) (ha F1 cs1 H _ l1 u1 S fun v F2 H2 l2 S2 ⟨w, vs, e, h, hp⟩ =>
    ⟨by rw [e]; exact .inl ⟨rfl, vs, S2.sqL h⟩, hb F2 cs1 H2 _ (l1.trans l2) u1 S2 fun v2 F3 H3 l3 S3 e2 => ⟨w, ns, i, e, by rw [show v2 = .int i from e2], by rw [← Els.ints hp]; exact S3.sqL (h.imp (l3.h _ _) id), q _ F3 H3 (l2.trans l3) S3 rfl⟩⟩)
end
end DL

-- part DLi
/-! DL, ninth part: name = comprehension, displays of dicts, dict(pairs). -/
namespace DL
open PySem PySem.Spec PyProof.Rows L2
section
variable {X : Cx}
theorem ps_setDc {i : Nat} {y : Str} {py : Pos} {kx vx tg iter : Expr} {ifs : List Expr} {scope : Scope} {own : List (Str × Nat)} {pos spos : Pos} {wi : TI} {g : TG} {tt : TT} {tk tv : TE} (hc : X.calm = true) (hN : X.N.Nodup) (hy : X.N[i]? = some y) (hyl : X.env.scope.names.lookup y = some .local)
    (hsw : swapsWith (.DictComp kx vx [⟨tg, iter, ifs, 0⟩] scope pos) (some (.Name y py)) spos.line X.env = pure true) (hi : PI X tg iter wi) (ok : BlkOk X.N X.env.scope scope own)
    (hg : ∀ (s : Shared) (H : Hp) (C : Addr) (cl : List (Str × Addr)) (fp : List Addr), PG (X.blk s H scope (compEnvC scope cl C X.env) fp) tg g) (ht : ∀ (s : Shared) (H : Hp) (C : Addr) (cl : List (Str × Addr)) (fp : List Addr), PTs (X.blk s H scope (compEnvC scope cl C X.env) fp) ifs tt)
    (hk : ∀ (s : Shared) (H : Hp) (C : Addr) (cl : List (Str × Addr)) (fp : List Addr), PE (X.blk s H scope (compEnvC scope cl C X.env) fp) kx tk)
    (he : ∀ (s : Shared) (H : Hp) (C : Addr) (cl : List (Str × Addr)) (fp : List Addr), PE (X.blk s H scope (compEnvC scope cl C X.env) fp) vx tv) (hs : ∀ x, foldedSetIterable iter X.env x = pure x := by intro _; rfl) :
    PS X (.Assign [.Name y py] (.DictComp kx vx [⟨tg, iter, ifs, 0⟩] scope pos) spos) (tAsg (tDc wi g tt tk tv (own.map (·.2))) (gName i)) := by
  refine ⟨fun pins s σ H D I h => ?_⟩
  rw [exec_Assign_Name_used _ _ _ _ hsw]
  refine wpAny_bind (wpAny_standAt (wpAny_bind ?_))
  show wpAny _ X.A (do let _ ← comprehension (.DictComp kx vx [⟨tg, iter, ifs, 0⟩] scope pos) scope X.env (firstIterPos [⟨tg, iter, ifs, 0⟩] pos) newDict false (eval iter X.env) (some (assign (.Name y py) X.env))) _ _ s
  have h : tDc wi g tt tk tv (own.map (·.2)) σ H (fun x H1 => gName i x σ H1 D.nx) := h
  refine wpAny_bind (thn (dc_core (Qf := fun _ s' => SP X pins D .next s') hc hN I hi ok hg ht hk he hs h fun L C s' m H' I' q hn f => ?_) fun _ s' hq => wpAny_pure (wpAny_pure hq))
  show wpAny _ _ (assign (.Name y py) X.env (.ref L)) _ _ _
  refine wpAny_assign_Name (store_ok2 (v := V.ref L) I' hN hy (.inl hyl) rfl (fun s2 I2 ⟨a, sb, ha⟩ => ?_) (.inr hyl))
  obtain ⟨f0, f1, f2, f3, f4, f5⟩ := f
  have haC : C ≠ a := by
    rcases ha with z | z
    · rw [z]; exact f1
    · exact fun e => f4 y a z e.symm
  refine ⟨m, hn.sameBut sb haC, fun h3 sb3 => ?_⟩
  exact ⟨_, H', I2.turned (t' := s2.toks) (fun b o hb e => (sb3.2 b hb).trans e) f0 f1 f3 f4 f5, q⟩
theorem sw_trueD {kx vx : Expr} {gs : List Comprehension} {scope : Scope} {pos py : Pos} {y : Str} {l : Nat} {env : Env} (hk : env.scope.kind = .function) (hy : env.scope.names.lookup y = some .local) (hl : (py.line == pos.line) = true)
    (ha : (scope.names.any fun (n, k) => n == y && (k == .local || k == .cell)) = false) : swapsWith (.DictComp kx vx gs scope pos) (some (.Name y py)) l env = pure true := by
  have ky : env.kindOf y = some .local := hy
  have hb : env.blockKind = .function := by unfold Env.blockKind; rw [hk]; rfl
  unfold swapsWith
  simp only [hb, ky, ha, Expr.pos, hl]
  rfl
variable {σ : Sl} {F F0 : Hp} {cs cs0 c0 : Cs} {H : Hp} {tg iter elt kx vx : Expr} {ifs : List Expr} {scope : Scope} {pos spos py : Pos} {α β γ : Type} {r : Rep α} {t : Rep β} {B : Hp → V → α → Sl → Sl → Prop} {is : List Nat} {own : List (Str × Nat)} {D : Ends} {i : Nat} {y : Str}
/-- name = [.. for ..] on one line, name a plain local -/
theorem ws_setLc {xs : List α} (p : α → Bool) (g : α → β) [s : Stable r] [z : Stable t] (hc : X.calm = true) (hN : X.N.Nodup) (hy : X.N[i]? = some y) (hyl : X.env.scope.names.lookup y = some .local) (ok : BlkOk X.N X.env.scope scope own) (hi : GIt X σ F cs c0 tg iter r xs) (hsub : Sub c0 cs)
    (hb : ∀ (s : Shared) (H0 : Hp) (C : Addr) (cl : List (Str × Addr)) (fp : List Addr), GB (X.blk s H0 scope (compEnvC scope cl C X.env) fp) tg r B is) (his : ∀ i ∈ is, i ∈ own.map (·.2))
    (ht : ∀ (F1 : Hp) (v : V) (x : α) (σ1 : Sl), Le1 F F1 → x ∈ xs → B F1 v x (wipe σ (own.map (·.2))) σ1 → ∀ (s : Shared) (H0 : Hp) (C : Addr) (cl : List (Str × Addr)) (fp : List Addr), GTs (X.blk s H0 scope (compEnvC scope cl C X.env) fp) σ1 F1 cs ifs (p x))
    (he : ∀ (F1 : Hp) (v : V) (x : α) (σ1 : Sl), Le1 F F1 → x ∈ xs → B F1 v x (wipe σ (own.map (·.2))) σ1 → p x = true → ∀ (s : Shared) (H0 : Hp) (C : Addr) (cl : List (Str × Addr)) (fp : List Addr), GE (X.blk s H0 scope (compEnvC scope cl C X.env) fp) σ1 F1 cs elt (fz t) (g x))
    (hz : xs.length ≤ sizeLine) (S : Sta F cs H) (k : ∀ v F2 H2, Le1 F F2 → Sta F2 cs H2 → Is (fz (rL t)) F2 cs v ((xs.filter p).map g) → D.nx (σ.set i (some v)) H2) (hs : ∀ x, foldedSetIterable iter X.env x = pure x := by intro _; rfl)
    (hsw : swapsWith (.ListComp elt [⟨tg, iter, ifs, 0⟩] scope pos) (some (.Name y py)) spos.line X.env = pure true := by exact sw_true rfl rfl rfl rfl) : WS X (.Assign [.Name y py] (.ListComp elt [⟨tg, iter, ifs, 0⟩] scope pos) spos) D σ H :=
  wsB (ps_setLc hc hN hy hyl hsw piW ok bpg bpt bpe hs) (tlc_core p g hi hsub hb his ht he hz (Le.refl _) (Sub.refl _) S fun D' acc F2 H2 => frz_lst (fun v F3 H3 l S3 q => k v F3 H3 l.one S3 ⟨q⟩) D' acc F2)
/-- name = {.. for ..} on one line, name a plain local -/
theorem ws_setDc {xs : List α} (gk : α → Int) (gv : α → β) [s : Stable r] [z : Stable t] (hc : X.calm = true) (hN : X.N.Nodup) (hy : X.N[i]? = some y) (hyl : X.env.scope.names.lookup y = some .local) (ok : BlkOk X.N X.env.scope scope own) (hi : GIt X σ F cs c0 tg iter r xs) (hsub : Sub c0 cs)
    (hb : ∀ (s : Shared) (H0 : Hp) (C : Addr) (cl : List (Str × Addr)) (fp : List Addr), GB (X.blk s H0 scope (compEnvC scope cl C X.env) fp) tg r B is) (his : ∀ i ∈ is, i ∈ own.map (·.2))
    (hk : ∀ (F1 : Hp) (v : V) (x : α) (σ1 : Sl), Le1 F F1 → x ∈ xs → B F1 v x (wipe σ (own.map (·.2))) σ1 → ∀ (s : Shared) (H0 : Hp) (C : Addr) (cl : List (Str × Addr)) (fp : List Addr), GE (X.blk s H0 scope (compEnvC scope cl C X.env) fp) σ1 F1 cs kx rI (gk x))
    (he : ∀ (F1 : Hp) (v : V) (x : α) (σ1 : Sl), Le1 F F1 → x ∈ xs → B F1 v x (wipe σ (own.map (·.2))) σ1 → ∀ (s : Shared) (H0 : Hp) (C : Addr) (cl : List (Str × Addr)) (fp : List Addr), GE (X.blk s H0 scope (compEnvC scope cl C X.env) fp) σ1 F1 cs vx (fz t) (gv x))
    (hz : xs.length ≤ sizeLine) (S : Sta F cs H) (k : ∀ v F2 H2, Le1 F F2 → Sta F2 cs H2 → Is (fz (rD t)) F2 cs v (xs.foldl (fun d x => put d (gk x) (gv x)) []) → D.nx (σ.set i (some v)) H2) (hs : ∀ x, foldedSetIterable iter X.env x = pure x := by intro _; rfl)
    (hsw : swapsWith (.DictComp kx vx [⟨tg, iter, [], 0⟩] scope pos) (some (.Name y py)) spos.line X.env = pure true := by exact sw_trueD rfl rfl rfl rfl) : WS X (.Assign [.Name y py] (.DictComp kx vx [⟨tg, iter, [], 0⟩] scope pos) spos) D σ H :=
  wsB (ps_setDc hc hN hy hyl hsw piW ok bpg bpt bpe bpe hs) (tdc_core gk gv hi hsub hb his hk he hz (Le.refl _) (Sub.refl _) S fun D' acc F2 H2 => frz_dct (fun v F3 H3 l S3 q => k v F3 H3 l.one S3 ⟨q⟩) D' acc F2)
/-- {k: v}: a new cell -/
theorem we_disp1C {a b : Expr} {x : Int} {y : β} {Q : VK} [z : Stable t] (ha : GE X σ F cs a rI x) (hb : GE X σ F cs b (fz t) y) (S : Sta F cs H)
    (k : ∀ d v F2 H2, Le1 F F2 → Sta F2 ((d, .dK [(.inl x, v)]) :: cs) H2 → t F2 [] v y → Q (.ref d) H2) : WE X (.Dict [some a] [b] pos) σ H Q :=
  weB (pe_disp (pps_cons peW peW pps_nil) rfl rfl (by simp) (by show 1 ≤ 15; decide)) fun p hp => by
    have S1 : Sta F ((p, .dK []) :: cs) (upd H p (.dK [])) := S.cell hp _
    refine ha F _ _ _ (Le.refl _) inferInstance S1 fun v F2 H2 l2 S2 e2 => hb F2 _ H2 _ l2 inferInstance S2 fun v3 F3 H3 l3 S3 q3 => ⟨S3.has _ List.mem_cons_self, [(.inl x, v3)], ?_, by show 1 ≤ 15; decide, ?_⟩
    · rw [show v = .int x from e2]; rfl
    · exact k p v3 F3 _ (l2.trans l3).one (S3.set (i := 0) rfl nfD) q3

end
end DL

-- part DLj
/-! DL, tenth part: plain facts of assoc lists, counting. -/
namespace DL
instance (priority := low) Sub.appR (l cs cs' : Cs) [a : Sub cs cs'] : Sub cs (l ++ cs') := ⟨fun q h => List.mem_append_right _ (a.h q h)⟩
theorem hu1 {k : Nat} {A : PySem.Around} (h : L2.Room k A) : A.units + 1 < PySem.cLine := by have := h.units; omega
theorem hu64 {k : Nat} {A : PySem.Around} (h : L2.Room k A) : A.units + 64 < PySem.cLine := by have := h.units; omega
section
variable {α : Type}
def keys (d : List (Int × α)) : List Int := d.map (·.1)
theorem look_some {d : List (Int × α)} {k : Int} : (look d k).isSome = true ↔ k ∈ keys d := by
  induction d with
  | nil => simp [look_nil, keys]
  | cons p d ih =>
    rw [look_cons]
    show _ ↔ k ∈ p.1 :: keys d
    rw [List.mem_cons]
    by_cases h : p.1 = k
    · simp [h]
    · rw [if_neg h, ih]
      exact ⟨.inr, fun z => z.elim (fun z => absurd z.symm h) id⟩
theorem look_mem {d : List (Int × α)} {k : Int} {x : α} (h : look d k = some x) : (k, x) ∈ d := by
  induction d with
  | nil => cases h
  | cons p d ih =>
    rw [look_cons] at h
    by_cases e : p.1 = k
    · rw [if_pos e] at h
      cases h
      rw [← e]
      exact List.mem_cons_self
    · rw [if_neg e] at h
      exact List.mem_cons_of_mem _ (ih h)
theorem look_of_mem {d : List (Int × α)} (nd : (keys d).Nodup) {k : Int} {x : α} (h : (k, x) ∈ d) : look d k = some x := by
  induction d with
  | nil => cases h
  | cons p d ih =>
    rw [look_cons]
    have nd' : p.1 ∉ keys d ∧ (keys d).Nodup := List.nodup_cons.mp nd
    rcases List.mem_cons.mp h with rfl | h
    · rw [if_pos rfl]
    · have : ¬ p.1 = k := fun e => nd'.1 (by rw [e]; exact List.mem_map.mpr ⟨_, h, rfl⟩)
      rw [if_neg this]
      exact ih nd'.2 h
theorem keys_put (d : List (Int × α)) (k : Int) (y : α) : keys (put d k y) = if k ∈ keys d then keys d else keys d ++ [k] := by
  unfold put
  by_cases h : k ∈ keys d
  · rw [if_pos h, if_pos (look_some.mpr h)]
    unfold keys
    rw [List.map_map]
    refine List.map_congr_left fun p _ => ?_
    show (if p.1 = k then (p.1, y) else p).1 = p.1
    split <;> rfl
  · rw [if_neg h, if_neg fun z => h (look_some.mp z)]
    unfold keys
    rw [List.map_append]; rfl
theorem keys_put_nd {d : List (Int × α)} (h : (keys d).Nodup) (k : Int) (y : α) : (keys (put d k y)).Nodup := by
  rw [keys_put]
  split
  · exact h
  · rename_i hk
    rw [List.nodup_append]
    exact ⟨h, by simp, fun a ha b hb e => by rw [List.mem_singleton.mp hb] at e; exact hk (e ▸ ha)⟩
theorem mem_keys_put {d : List (Int × α)} {k j : Int} {y : α} : j ∈ keys (put d k y) ↔ j = k ∨ j ∈ keys d := by
  rw [keys_put]
  split
  · rename_i h
    exact ⟨.inr, fun z => z.elim (fun e => e ▸ h) id⟩
  · rw [List.mem_append, List.mem_singleton]
    exact ⟨fun z => z.elim .inr .inl, fun z => z.elim .inr .inl⟩
theorem keys_length (d : List (Int × α)) : (keys d).length = d.length := List.length_map ..
end
theorem nodup_len {α : Type} [DecidableEq α] : ∀ {l l' : List α}, l.Nodup → (∀ x ∈ l, x ∈ l') → l.length ≤ l'.length
  | [], l', _, _ => Nat.zero_le _
  | x :: l, l', nd, h => by
    rw [List.nodup_cons] at nd
    have hx := h x List.mem_cons_self
    have : l.length ≤ (l'.erase x).length := nodup_len nd.2 fun y hy => (List.mem_erase_of_ne fun e => nd.1 (by rw [← e]; exact hy)).mpr (h y (List.mem_cons_of_mem _ hy))
    rw [List.length_erase_of_mem hx] at this
    have : 0 < l'.length := List.length_pos_of_mem hx
    rw [List.length_cons]; omega
theorem nodup_rng {l : List Int} (nd : l.Nodup) {n : Nat} (h : ∀ x ∈ l, 0 ≤ x ∧ x < n) : l.length ≤ n := by
  have := nodup_len nd (l' := rng 0 n) fun x hx => mem_rng.mpr (by have := h x hx; omega)
  rwa [rng_length] at this
theorem snoc_ind {α : Type} {P : List α → Prop} (h0 : P []) (hs : ∀ xs x, P xs → P (xs ++ [x])) (xs : List α) : P xs := by
  have : ∀ ys : List α, P ys.reverse := by
    intro ys
    induction ys with
    | nil => exact h0
    | cons y ys ih => rw [List.reverse_cons]; exact hs _ _ ih
  have := this xs.reverse
  rwa [List.reverse_reverse] at this
section
open PySem PySem.Spec PyProof.Rows L2
variable {X : Cx} {σ : Sl} {F : Hp} {cs : Cs} {H : Hp} {pos : Pos} {α : Type} {r : Rep α} {D : Ends} {Q : VK}
theorem we_var {n : Nat} {z : Str} {v : V} (hN : X.N[n]? = some z) (hσ : σ[n]? = some (some v)) (q : Q v H)
    (hv : Vis X.env.scope z := by first | exact Or.inl rfl | exact Or.inr (Or.inl rfl) | exact Or.inr (Or.inr rfl)) (hd : (z == ("__debug__" : Str)) = false := by decide) (hcd : (z == ("__classdict__" : Str)) = false := by decide) : WE X (.Name z pos) σ H Q :=
  weB (pe_var hN hv hd hcd) ⟨v, hσ, q⟩
theorem frzD {w : Addr} {kvs : List (Key × V)} {xs : List (Int × α)} [s : Stable r] (S : Sta F ((w, .dK kvs) :: cs) H) (h : Ens r F kvs xs) : ∃ F2, Le1 F F2 ∧ Sta F2 cs H ∧ Is (fz (rD r)) F2 cs (.ref w) xs :=
  have z := S.freeze nfD
  ⟨_, z.1, z.2, ⟨w, kvs, rfl, .inl upd_same, Ens.up z.1.le h⟩⟩
theorem frzL {w : Addr} {vs : List V} {xs : List α} [s : Stable r] (S : Sta F ((w, .lst vs) :: cs) H) (h : Els r F vs xs) : ∃ F2, Le1 F F2 ∧ Sta F2 cs H ∧ Is (fz (rL r)) F2 cs (.ref w) xs :=
  have z := S.freeze nfL
  ⟨_, z.1, z.2, ⟨w, vs, rfl, .inl upd_same, Els.up z.1.le h⟩⟩
theorem Els.set' {F : Hp} : ∀ {vs : List V} {xs : List α} {i : Nat} {v : V} {x : α}, Els r F vs xs → r F [] v x → Els r F (vs.set i v) (xs.set i x)
  | _, _, _, _, _, .nil, _ => .nil
  | _, _, 0, _, _, .cons _ t, q => .cons q t
  | _, _, i + 1, _, _, .cons h t, q => .cons h (Els.set' t q)
theorem Is.fzn {v : V} {x : α} (h : Is (fz r) F cs v x) : Is r F [] v x := ⟨h.h⟩
theorem Le1.tr {F F1 F2 : Hp} (a : Le1 F F1) (b : Le1 F1 F2) : Le1 F F2 := (a.le.trans b.le).one
end
section
open PySem PySem.Spec PyProof.Rows L2
variable {X : Cx} {σ : Sl} {F F0 : Hp} {cs cs0 : Cs} {a b c d : Expr} {pos : Pos} {α β γ δ ε : Type} {r : Rep α} {t : Rep β} {m : Rep γ} {n : Rep δ} {u : Rep ε} {x : α} {y : β} {k l : Nat} {z : Str} {st : Stmt} {ps : List Str} {pp : Pos}
theorem ge_call4 {w : γ} {g : δ} {f : ε} {pre : α → β → δ → ε → Prop} {post : α → β → δ → ε → γ → Prop} [sr : Stable r] [st' : Stable t] [sn : Stable n] [Stable m] (c' : Fn X.prog X.w X.K X.mg X.base k z st ps (sp4 r t n u m pre post)) (hr : Room l X.A) (hg : Gl X z) (ha : GE X σ F cs a r x) (hb : GE X σ F cs b t y) (hc : GE X σ F cs c n g) (hd : GE X σ F cs d u f) (hp : pre x y g f) (hy : ∀ z, post x y g f z → z = w) (hk : k ≤ l := by decide)
    (hdb : (z == ("__debug__" : Str)) = false := by decide) (he : starEach [a, b, c, d] X.env = (false, eval a X.env) :: starEach [b, c, d] X.env := by rfl) (he2 : starEach [b, c, d] X.env = (false, eval b X.env) :: starEach [c, d] X.env := by rfl) (he3 : starEach [c, d] X.env = (false, eval c X.env) :: starEach [d] X.env := by rfl) (he4 : starEach [d] X.env = (false, eval d X.env) :: starEach [] X.env := by rfl) (hpl : (backTo pos (starEach [b, c, d] X.env)).any (·.1) = false := by rfl) :
    GE X σ F cs (.Call (.Name z pp) [a, b, c, d] [] pos) (fz m) w := fun F1 cs1 H Q l1 u1 S q =>
  we_call4 c' hr hg (ha.up) (hb.up) (hc.up) (hd.up) S hp (fun w' v F2 H2 l2 S2 h2 e => by
    have := hy _ e; subst this; exact q v F2 H2 l2.le S2 h2.h) hk hdb he he2 he3 he4 hpl
end
end DL

-- part K97m
/-! k97, the shares: plain law -/
namespace K97
open DL
def wp (s : Int × Int) (m : Int) : Int × Int := low (s.1 * m + s.2) (s.2 * m)
structure Shr (s : Int × Int) (S : Int) : Prop where
  pos : 0 < s.2
  val : s.1 * 60 = S * s.2
  cop : Nat.gcd s.1.natAbs s.2.natAbs = 1
theorem Shr.dvd {s : Int × Int} {S : Int} (h : Shr s S) : s.2 ∣ 60 := by
  have h1 : s.2.natAbs ∣ s.1.natAbs * 60 := by
    have : s.2 ∣ s.1 * 60 := ⟨S, by rw [h.val, Int.mul_comm]⟩
    have := Int.natAbs_dvd_natAbs.mpr this
    rw [Int.natAbs_mul] at this
    exact this
  have h2 : Nat.Coprime s.2.natAbs s.1.natAbs := by
    show Nat.gcd _ _ = 1
    rw [Nat.gcd_comm]; exact h.cop
  have h3 := h2.dvd_of_dvd_mul_left h1
  exact Int.natAbs_dvd_natAbs.mp h3
theorem Shr.le {s : Int × Int} {S : Int} (h : Shr s S) : s.2 ≤ 60 := Int.le_of_dvd (by decide) h.dvd
theorem Shr.zero : Shr (0, 1) 0 := ⟨by decide, by decide, by decide⟩
theorem gcd_pos' {t b : Int} (hb : 0 < b) : 0 < (Nat.gcd t.natAbs b.natAbs : Int) := by
  have : 0 < Nat.gcd t.natAbs b.natAbs := Nat.gcd_pos_of_pos_right _ (by omega)
  omega
theorem low_mul {t b : Int} (hb : 0 < b) : (low t b).1 * (Nat.gcd t.natAbs b.natAbs : Int) = t ∧ (low t b).2 * (Nat.gcd t.natAbs b.natAbs : Int) = b :=
  ⟨Int.ediv_mul_cancel (Int.natAbs_dvd_natAbs.mp (by rw [Int.natAbs_natCast]; exact Nat.gcd_dvd_left _ _)), Int.ediv_mul_cancel (Int.natAbs_dvd_natAbs.mp (by rw [Int.natAbs_natCast]; exact Nat.gcd_dvd_right _ _))⟩
theorem low_shr {t b S : Int} (hb : 0 < b) (h : t * 60 = S * b) : Shr (low t b) S := by
  have hg := gcd_pos' (t := t) hb
  obtain ⟨e1, e2⟩ := low_mul (t := t) hb
  generalize hgg : (Nat.gcd t.natAbs b.natAbs) = g at *
  refine ⟨?_, ?_, ?_⟩
  · rcases Int.lt_or_le 0 (low t b).2 with h | h
    · exact h
    · have := Int.mul_nonpos_of_nonpos_of_nonneg h (Int.le_of_lt hg)
      omega
  · have : ((low t b).1 * 60) * (g : Int) = (S * (low t b).2) * (g : Int) := by
      rw [Int.mul_right_comm, e1, h, Int.mul_assoc, e2]
    exact Int.eq_of_mul_eq_mul_right (by omega) this
  · have hg' : 0 < g := by omega
    have h1 : (low t b).1.natAbs = t.natAbs / g := by
      have : t.natAbs = (low t b).1.natAbs * g := by
        have := congrArg Int.natAbs e1
        rw [Int.natAbs_mul, Int.natAbs_natCast] at this
        exact this.symm
      rw [this, Nat.mul_div_cancel _ hg']
    have h2 : (low t b).2.natAbs = b.natAbs / g := by
      have : b.natAbs = (low t b).2.natAbs * g := by
        have := congrArg Int.natAbs e2
        rw [Int.natAbs_mul, Int.natAbs_natCast] at this
        exact this.symm
      rw [this, Nat.mul_div_cancel _ hg']
    rw [h1, h2]
    have := Nat.gcd_div (m := t.natAbs) (n := b.natAbs) (k := g) (by rw [← hgg]; exact Nat.gcd_dvd_left _ _) (by rw [← hgg]; exact Nat.gcd_dvd_right _ _)
    rw [this, hgg, Nat.div_self hg']
theorem wp_shr {s : Int × Int} {S m : Int} (h : Shr s S) (h0 : 0 < m) (h6 : m ≤ 6) : Shr (wp s m) (S + 60 / m) := by
  refine low_shr (Int.mul_pos h.pos h0) ?_
  have e : (60 / m) * m = 60 := by
    have : m = 1 ∨ m = 2 ∨ m = 3 ∨ m = 4 ∨ m = 5 ∨ m = 6 := by omega
    rcases this with rfl | rfl | rfl | rfl | rfl | rfl <;> decide
  calc (s.1 * m + s.2) * 60 = (s.1 * 60) * m + s.2 * 60 := by rw [Int.add_mul, Int.mul_right_comm]
    _ = (S * s.2) * m + s.2 * ((60 / m) * m) := by rw [h.val, e]
    _ = (S + 60 / m) * (s.2 * m) := by
      rw [Int.add_mul, Int.mul_assoc, ← Int.mul_assoc (60 / m), Int.mul_comm (60 / m) s.2, Int.mul_assoc s.2]
abbrev Shs := List (Int × (Int × Int))
def gsh (d : Shs) (p : Int) : Int × Int := (look d p).getD (0, 1)
def stepP (n : Int) (d : Shs) (p : Int) : Shs := put d p (wp (gsh d p) n)
def stepG (d : Shs) (g : List Int) : Shs := g.foldl (stepP g.length) d
def sharesM (G : List (List Int)) : Shs := G.foldl stepG []
def Sv (G : List (List Int)) (p : Int) : Int := (G.map fun g => if p ∈ g then 60 / (g.length : Int) else 0).sum
theorem gsh_put (d : Shs) (k p : Int) (y : Int × Int) : gsh (put d k y) p = if p = k then y else gsh d p := by
  unfold gsh
  rw [look_put]
  split <;> rfl
theorem shr_inner {n : Int} (h0 : 0 < n) (h6 : n ≤ 6) (v : Int → Int) : ∀ (ps : List Int) (d : Shs), ps.Nodup → (∀ p, Shr (gsh d p) (v p)) → ∀ p, Shr (gsh (ps.foldl (stepP n) d) p) (v p + if p ∈ ps then 60 / n else 0) := by
  intro ps
  induction ps generalizing v with
  | nil => intro d _ h p; simpa using h p
  | cons q ps ih =>
    intro d hn h p
    rw [List.nodup_cons] at hn
    rw [List.foldl_cons]
    have := ih (fun p => v p + if p = q then 60 / n else 0) (stepP n d q) hn.2 (fun p => by
      unfold stepP
      rw [gsh_put]
      by_cases e : p = q
      · subst e
        rw [if_pos rfl, if_pos rfl]
        exact wp_shr (h p) h0 h6
      · rw [if_neg e, if_neg e, Int.add_zero]
        exact h p) p
    have e2 : (v p + if p = q then 60 / n else 0) + (if p ∈ ps then 60 / n else 0) = v p + if p ∈ q :: ps then 60 / n else 0 := by
      by_cases e : p = q
      · subst e
        rw [if_pos rfl, if_neg hn.1, if_pos List.mem_cons_self, Int.add_zero]
      · rw [if_neg e, Int.add_zero]
        by_cases e3 : p ∈ ps
        · rw [if_pos e3, if_pos (List.mem_cons_of_mem _ e3)]
        · rw [if_neg e3, if_neg fun z => (List.mem_cons.mp z).elim e e3]
    rw [← e2]
    exact this
theorem Grp.nd {g : List Int} (h : Grp g) : g.Nodup := h.ri.imp fun a => by omega
theorem Grp.pos {g : List Int} (h : Grp g) : (0 : Int) < g.length := by
  have := h.ne
  cases g with
  | nil => exact absurd rfl this
  | cons x r => simp only [List.length_cons]; omega
theorem Grp.le6 {g : List Int} (h : Grp g) : (g.length : Int) ≤ 6 := by have := h.le; omega
theorem Sv_snoc (G : List (List Int)) (g : List Int) (p : Int) : Sv (G ++ [g]) p = Sv G p + if p ∈ g then 60 / (g.length : Int) else 0 := by
  unfold Sv
  rw [List.map_append, List.sum_append]
  simp
theorem sharesM_snoc (G : List (List Int)) (g : List Int) : sharesM (G ++ [g]) = stepG (sharesM G) g := by
  unfold sharesM
  rw [List.foldl_append]; rfl
theorem shares_shr (G : List (List Int)) : (∀ g ∈ G, Grp g) → ∀ p, Shr (gsh (sharesM G) p) (Sv G p) := by
  induction G using snoc_ind with
  | h0 => intro _ p; exact Shr.zero
  | hs G g ih =>
    intro h p
    have hg := h g (List.mem_append_right _ List.mem_cons_self)
    rw [Sv_snoc, sharesM_snoc]
    exact shr_inner hg.pos hg.le6 (Sv G) g (sharesM G) hg.nd (ih fun g' hg' => h g' (List.mem_append_left _ hg')) p
end K97

-- part K97e
namespace K97
open PySem PySem.Spec PyProof.Rows L2 DL
abbrev sSharesOf : Stmt := topS 20
abbrev sShares : Stmt := topS 21
abbrev sTurnsOf : Stmt := topS 22
abbrev sGivenOn : Stmt := topS 24
theorem scSharesOf : FnScope ["groups", "found", "group", "person"] ["groups"] (defScope sSharesOf) := ⟨rfl, rfl, rfl, by decide +kernel, rfl, by decide +kernel, by decide +kernel⟩
theorem scShares : FnScope ["groups", "person", "share"] ["groups"] (defScope sShares) := ⟨rfl, rfl, rfl, by decide +kernel, rfl, by decide +kernel, by decide +kernel⟩
theorem scTurnsOf : FnScope ["taken", "person"] ["taken"] (defScope sTurnsOf) := ⟨rfl, rfl, rfl, by decide +kernel, rfl, by decide +kernel, by decide +kernel⟩
theorem scGivenOn : FnScope ["taken", "way", "found", "at", "person"] ["taken", "way"] (defScope sGivenOn) := ⟨rfl, rfl, rfl, by decide +kernel, rfl, by decide +kernel, by decide +kernel⟩
/-- the counts of those who are in a list -/
def turnsM (T : List Int) : List (Int × Int) := T.foldl (fun d p => put d p ((T.count p : Nat) : Int)) []
def givenM (T : List Int) (w : List (Int × Int)) : List Int := w.foldl (fun f e => f.set e.1.toNat e.2) T
section
variable {P : Program} {w : World} {K : PySem.W.Frag} {mg : Str → Option Value} {base : Heap}
theorem fn_with_part {f : Addr} {fd : FuncData} (T : Txt mg) (cL : FLowest P w K mg base) (hF : Fun K "with_part" "with_part" sWithPart f fd) (hm : mg "with_part" = some (.ref f)) (hb : Binds K fd ["share", "many"] []) : FWithPart P w K mg base := by
  refine fn_mk hF hm hb scWithPart sp2_len fun cdv A outer s H vs Q E hr ⟨F, cs, v, x, v2, m, e, S, hv, ⟨hv2⟩, ⟨h1, h2, h3, h4⟩, k⟩ => ?_
  subst e
  obtain rfl : v2 = .int m := hv2
  have hbb : x.2 * m ≤ 60 * 6 := Int.mul_le_mul h2 h4 (by omega) (by decide)
  refine wss_one (ws_retW (we_call2 cL hr rfl (ge_add (ge_mul (ge_t20 (ge_v (n := 0) rfl rfl hv)) (ge_vi (n := 1) rfl rfl) (.inr (by omega))) (ge_t21 (ge_v (n := 0) rfl rfl hv))) (ge_mul (ge_t21 (ge_v (n := 0) rfl rfl hv)) (ge_vi (n := 1) rfl rfl) (.inr (by omega))) S ⟨Int.mul_pos h1 h3, by omega⟩ fun y v F2 H2 l S2 hy e => k y v F2 H2 l S2 hy e))
/-- shares in the making -/
def AllShr (d : Shs) : Prop := (∀ p, ∃ S, Shr (gsh d p) S) ∧ (keys d).Nodup ∧ ∀ p ∈ keys d, 0 ≤ p ∧ p ≤ 29
theorem AllShr.len {d : Shs} (h : AllShr d) : d.length ≤ 30 := by
  rw [← keys_length]
  exact nodup_rng h.2.1 (n := 30) fun x hx => by have := h.2.2 x hx; omega
theorem AllShr.nil : AllShr [] := ⟨fun p => ⟨0, Shr.zero⟩, List.nodup_nil, fun _ h => nomatch h⟩
theorem AllShr.step {d : Shs} (h : AllShr d) {n p : Int} (h0 : 0 < n) (h6 : n ≤ 6) (hp : 0 ≤ p ∧ p ≤ 29) : AllShr (stepP n d p) := by
  refine ⟨fun q => ?_, keys_put_nd h.2.1 _ _, fun q hq => ?_⟩
  · unfold stepP
    rw [gsh_put]
    split
    · exact ⟨_, wp_shr (h.1 p).choose_spec h0 h6⟩
    · exact h.1 q
  · rcases mem_keys_put.mp hq with e | e
    · rw [e]; exact hp
    · exact h.2.2 q e
theorem AllShr.fold {n : Int} (h0 : 0 < n) (h6 : n ≤ 6) : ∀ (g : List Int) (d : Shs), AllShr d → (∀ p ∈ g, 0 ≤ p ∧ p ≤ 29) → AllShr (g.foldl (stepP n) d)
  | [], _, h, _ => h
  | p :: g, d, h, hp => AllShr.fold h0 h6 g _ (h.step h0 h6 (hp p List.mem_cons_self)) fun q hq => hp q (List.mem_cons_of_mem _ hq)
theorem allShr (G : List (List Int)) : (∀ g ∈ G, Grp g) → AllShr (sharesM G) := by
  induction G using snoc_ind with
  | h0 => intro _; exact AllShr.nil
  | hs G g ih =>
    intro h
    rw [sharesM_snoc]
    have hg := h g (List.mem_append_right _ List.mem_cons_self)
    exact AllShr.fold hg.pos hg.le6 g _ (ih fun g' hg' => h g' (List.mem_append_left _ hg')) fun p hp => hg.bd p hp
abbrev FSharesOf (P : Program) (w : World) (K : PySem.W.Frag) (mg : Str → Option Value) (base : Heap) : Prop := Fn P w K mg base 3 "shares_of" sSharesOf ["groups"] (sp1 (rL (rL rI)) (rD (rT2 rI rI)) Grps (fun G y => y = sharesM G))
theorem fn_shares_of {f : Addr} {fd : FuncData} (T : Txt mg) (cW : FWithPart P w K mg base) (hF : Fun K "shares_of" "shares_of" sSharesOf f fd) (hm : mg "shares_of" = some (.ref f)) (hb : Binds K fd ["groups"] []) : FSharesOf P w K mg base := by
  refine fn_mk hF hm hb scSharesOf sp1_len fun cdv A outer s H vs Q E hr ⟨F, cs, v, G, e, S, hv, hg, k⟩ => ?_
  subst e
  refine wss_cons (ws_setW scSharesOf.nd (n := 1) rfl (.inl rfl) (we_dnilC S fun d H1 S1 => ?_))
  refine wss_cons (ws_for (own := [(d, .dK [])]) (R := cs) (fun pre F' own' σ' => ∃ kvs b c, own' = [(d, .dK kvs)] ∧ Ens (rT2 rI rI) F' kvs (sharesM pre) ∧ σ' = [some v, some (.ref d), b, c]) PassesOwn.never rfl
    (gi_v (n := 0) rfl rfl hv.asQ) S1 (gb_n (rL rI) scSharesOf.nd (i := 2) rfl (.inl rfl)) rfl (fun pre F' own' σ' R' _ hR => Sub.right hR) (fun F2 _ => ⟨[], none, none, rfl, .nil, rfl⟩) ?_ ?_)
  · rintro pre g post F' F'' own' σ' H' v1 σ1 R' eG l1 l2 hsR hR S2 ⟨kvs, b, c, rfl, hk, rfl⟩ ⟨h1, rfl⟩
    have hgm : g ∈ G := by rw [eG]; exact List.mem_append_right _ List.mem_cons_self
    have hpre : AllShr (sharesM pre) := allShr pre fun g' hg' => hg.ok g' (by rw [eG]; exact List.mem_append_left _ hg')
    have hgg := hg.ok g hgm
    refine wss_one (ws_for (own := [(d, .dK kvs)]) (R := R') (fun ps F3 own3 σ3 => ∃ kvs c, own3 = [(d, .dK kvs)] ∧ Ens (rT2 rI rI) F3 kvs (ps.foldl (stepP g.length) (sharesM pre)) ∧ σ3 = [some v, some (.ref d), some v1, c]) PassesOwn.never rfl
      (gi_v (n := 2) rfl rfl h1.asQ) S2 (gb_i scSharesOf.nd (i := 3) rfl (.inl rfl)) rfl (fun pre F' own' σ' R' _ hR => Sub.nil _) (fun F2 l3 => ⟨kvs, c, rfl, Ens.up (Le.trans l2.le l3.le) hk, rfl⟩) ?_ ?_)
    · rintro ps p ps2 F3 F4 own3 σ3 H3 v2 σ2 R3 eg l3 l4 hsR2 hR2 S3 ⟨kvs3, c3, rfl, hk3, rfl⟩ rfl
      have hpm : p ∈ g := by rw [eg]; exact List.mem_append_right _ List.mem_cons_self
      have hps : AllShr (ps.foldl (stepP g.length) (sharesM pre)) := AllShr.fold hgg.pos hgg.le6 ps _ hpre fun q hq => hgg.bd q (by rw [eg]; exact List.mem_append_left _ hq)
      obtain ⟨Sx, hs⟩ := hps.1 p
      have hlen := hps.len
      have hk4 := Ens.up l4.le hk3
      refine wss_one (ws_dput 0 (hu1 hr) (m := 1) rfl rfl S3 rfl
        (ge_call2 cW hr rfl (ge_get2 (hu1 hr) (ge_vd (n := 1) rfl rfl List.mem_cons_self hk4) (ge_vi (n := 3) rfl rfl) (ge_tup2 ge_int ge_int)) (ge_lenL rfl T.len (ge_v (n := 2) rfl rfl h1)) ⟨hs.pos, hs.le, hgg.pos, hgg.le6⟩ fun _ h => h) (ge_vi (n := 3) rfl rfl)
        (by rw [show kvs3.length = _ from Paired.length hk3, sizeLine_eq]; omega) fun v4 F5 H5 l5 S5 h5 => ⟨F5, _, l5.le, S5, _, _, rfl, ?_, rfl⟩)
      rw [List.foldl_append]
      exact (Ens.up l5.le hk4).put h5.h
    · rintro F3 own3 σ3 H3 R3 l3 hsR2 hR2 S3 ⟨kvs3, c3, rfl, hk3, rfl⟩
      exact ⟨F3, [(d, .dK kvs3)], l3.le, S3.sub (by simpa using hR2), kvs3, _, _, rfl, by rw [sharesM_snoc]; exact hk3, rfl⟩
  · rintro F' own' σ' H' R' l1 hsR hR S2 ⟨kvs, b, c, rfl, hk, rfl⟩
    obtain ⟨F2, l2, S3, h3⟩ := frzD S2 hk
    exact wss_one (ws_retW (we_var (n := 1) rfl rfl (k _ _ F2 H' (l1.tr l2) (S3.sub hR) h3.fzn rfl)))
abbrev FTurnsOf (P : Program) (w : World) (K : PySem.W.Frag) (mg : Str → Option Value) (base : Heap) : Prop := Fn P w K mg base 1 "turns_of" sTurnsOf ["taken"] (sp1 (rL rI) (rD rI) (fun T => T.length ≤ 1000) (fun T y => y = turnsM T))
theorem fn_turns_of {f : Addr} {fd : FuncData} (T : Txt mg) (hF : Fun K "turns_of" "turns_of" sTurnsOf f fd) (hm : mg "turns_of" = some (.ref f)) (hb : Binds K fd ["taken"] []) : FTurnsOf P w K mg base := by
  refine fn_mk hF hm hb scTurnsOf sp1_len fun cdv A outer s H vs Q E hr ⟨F, cs, v, ts, e, S, hv, hl, k⟩ => ?_
  subst e
  refine wss_one (ws_ret (ge_dc (own := [("person", 1)]) (fun p => p) (fun p => ((ts.count p : Nat) : Int)) rfl scTurnsOf.nd (blkOk_by (by kernel_rfl)) (gi_v (n := 0) rfl rfl hv.asQ) (Sub.refl _) (fun _ _ _ _ _ => gb_i scTurnsOf.nd (i := 1) rfl (.inl rfl)) (by decide) ?_ ?_ (line60 hl)) S fun v2 F2 H2 l2 S2 h2 => k _ _ F2 H2 l2 S2 h2.fzn rfl)
  · rintro F1 v1 x σ1 l1 hx rfl s0 H0 C cl fp
    exact ge_vi (n := 1) rfl rfl
  · rintro F1 v1 x σ1 l1 hx rfl s0 H0 C cl fp
    refine ge_count (ns := ts) (i := x) (ge_v (n := 0) rfl rfl hv) (ge_vi (n := 1) rfl rfl)
abbrev FGivenOn (P : Program) (w : World) (K : PySem.W.Frag) (mg : Str → Option Value) (base : Heap) : Prop := Fn P w K mg base 1 "given_on" sGivenOn ["taken", "way"] (sp2 (rL rI) (rL (rT2 rI rI)) (rL rI) (fun T w => ∀ e ∈ w, 0 ≤ e.1 ∧ e.1 < T.length) (fun T w y => y = givenM T w))
theorem given_len (w : List (Int × Int)) : ∀ T : List Int, (givenM T w).length = T.length := by
  induction w with
  | nil => intro T; rfl
  | cons e w ih => intro T; show (givenM (T.set e.1.toNat e.2) w).length = _; rw [ih, List.length_set]
theorem fn_given_on {f : Addr} {fd : FuncData} (T : Txt mg) (hF : Fun K "given_on" "given_on" sGivenOn f fd) (hm : mg "given_on" = some (.ref f)) (hb : Binds K fd ["taken", "way"] []) : FGivenOn P w K mg base := by
  refine fn_mk hF hm hb scGivenOn sp2_len fun cdv A outer s H vs Q E hr ⟨F, cs, v, ts, v2, w, e, S, hv, hw, hl, k⟩ => ?_
  subst e
  refine wss_cons (ws_setW scGivenOn.nd (n := 2) rfl (.inl rfl) (we_listC rfl T.list (ge_v (n := 0) rfl rfl hv) S fun d xs F1 H1 l1 S1 hx => ?_))
  refine wss_cons (ws_for (own := [(d, .lst xs)]) (R := cs) (fun pre F' own' σ' => ∃ xs b c, own' = [(d, .lst xs)] ∧ Els rI F' xs (givenM ts pre) ∧ σ' = [some v, some v2, some (.ref d), b, c]) PassesOwn.never rfl
    (gi_v (n := 1) rfl rfl hw.asQ) S1 (gb_t2 rfl (gb_i scGivenOn.nd (i := 3) rfl (.inl rfl)) (gb_i scGivenOn.nd (i := 4) rfl (.inl rfl))) rfl (fun pre F' own' σ' R' _ hR => Sub.right hR) (fun F2 l2 => ⟨xs, none, none, rfl, Els.up l2.le hx, rfl⟩) ?_ ?_)
  · rintro pre ⟨i, p⟩ post F' F'' own' σ' H' v1 σ1 R' eG l1 l2 hsR hR S2 ⟨xs2, b, c, rfl, hk, rfl⟩ ⟨u1, u2, σ2, rfl, rfl⟩
    have hb := hl (i, p) (by rw [eG]; exact List.mem_append_right _ List.mem_cons_self)
    dsimp only at hb
    have hlx : xs2.length = ts.length := by rw [show xs2.length = _ from Paired.length hk, given_len]
    have hix : ixN xs2.length i = some i.toNat := by unfold ixN; rw [if_pos hb.1, if_pos (by omega)]
    refine wss_one (ws_setItem (r := rI) (x := p) 0 (m := 2) rfl rfl S2 rfl (ge_vi (n := 4) rfl rfl) (ge_vi (n := 3) rfl rfl) hix fun v5 F5 H5 l5 S5 h5 => ⟨F5, _, l5.le, S5, _, _, _, rfl, ?_, rfl⟩)
    rw [show givenM ts (pre ++ [(i, p)]) = (givenM ts pre).set i.toNat p by unfold givenM; rw [List.foldl_append]; rfl]
    exact Els.set' (Els.up (l2.le.trans l5.le) hk) h5.h
  · rintro F' own' σ' H' R' l2 hsR hR S2 ⟨xs2, b, c, rfl, hk, rfl⟩
    obtain ⟨F2, l3, S3, h3⟩ := frzL S2 hk
    exact wss_one (ws_retW (we_var (n := 2) rfl rfl (k _ _ F2 H' (l1.tr (l2.tr l3)) (S3.sub hR) h3.fzn rfl)))
end
end K97

-- part K97f
namespace K97
open PySem PySem.Spec PyProof.Rows L2 DL
structure Txt2 (mg : Str → Option Value) : Prop extends Txt mg where
  sorted : mg "sorted" = none
  enum : mg "enumerate" = none
  zip : mg "zip" = none
def sharesL (G : List (List Int)) : List (Int × Int × Int) := (srtK (sharesM G)).map fun e => (e.1, e.2.1, e.2.2)
section
variable {P : Program} {w : World} {K : PySem.W.Frag} {mg : Str → Option Value} {base : Heap}
abbrev FShares (P : Program) (w : World) (K : PySem.W.Frag) (mg : Str → Option Value) (base : Heap) : Prop := Fn P w K mg base 6 "shares" sShares ["groups"] (sp1 (fz (rL (rL rI))) (rL (rT3 rI rI rI)) Grps (fun G y => y = sharesL G))
theorem fn_shares {f : Addr} {fd : FuncData} (T : Txt2 mg) (cC : FCheckGroups P w K mg base) (cS : FSharesOf P w K mg base) (hF : Fun K "shares" "shares" sShares f fd) (hm : mg "shares" = some (.ref f)) (hb : Binds K fd ["groups"] []) : FShares P w K mg base := by
  refine fn_mk hF hm hb scShares sp1_len fun cdv A outer s H vs Q E hr ⟨F, cs, v, G, e, S, hv, hg, k⟩ => ?_
  subst e
  refine wss_cons (ws_expr (we_call1 cC hr rfl (ge_v (n := 0) rfl rfl hv) S hg fun _ _ F1 H1 l1 S1 _ _ => ?_))
  have hl : (srtK (sharesM G)).length ≤ 30 := by rw [(srtK_perm _).length_eq]; exact (allShr G hg.ok).len
  refine wss_one (ws_ret (ge_lc0 (own := [("person", 1), ("share", 2)]) (fun (e : Int × Int × Int) => (e.1, e.2.1, e.2.2)) rfl scShares.nd (blkOk_by (by kernel_rfl))
    (gi_list (ge_sortedIt rfl rfl T.sorted (GE.un (ge_call1 cS hr rfl (GE.un (ge_v (n := 0) rfl rfl hv)) hg fun _ h => h)) (by have := (allShr G hg.ok).len; omega))) (Sub.nil _)
    (fun _ _ _ _ _ => gb_t2 rfl (gb_i scShares.nd (i := 1) rfl (.inl rfl)) (gb_n (rT2 rI rI) scShares.nd (i := 2) rfl (.inl rfl))) (by decide) ?_ (line60 (by omega))) S1 fun v2 F2 H2 l2 S2 h2 => k _ _ F2 H2 (l1.tr l2) S2 h2.fzn rfl)
  rintro F2 v1 ⟨p, q⟩ σ1 l2 hx ⟨u1, u2, σ2, rfl, ⟨hu, rfl⟩⟩ s0 H0 C cl fp
  exact ge_tupS (r := rI) (ge_vi (n := 1) rfl rfl) (ge_v (n := 2) rfl rfl hu)
end
end K97

-- part K97g
namespace K97
open PySem PySem.Spec PyProof.Rows L2 DL
abbrev sWayFrom : Stmt := topS 23
theorem scWayFrom : FnScope ["groups", "taken", "start", "ends", "ways", "waiting", "person", "at", "group", "other"] ["groups", "taken", "start", "ends"] (defScope sWayFrom) := ⟨rfl, rfl, rfl, by decide +kernel, rfl, by decide +kernel, by decide +kernel⟩
abbrev Pth := List (Int × Int)
abbrev Wys := List (Int × Pth)
abbrev WSt := Wys × List Int
def addO (a person : Int) (st : WSt) (other : Int) : WSt := if (look st.1 other).isSome = true then st else (put st.1 other ((look st.1 person).getD [] ++ [(a, other)]), st.2 ++ [other])
def addG (T : List Int) (person : Int) (st : WSt) (e : Int × List Int) : WSt := if T.getD e.1.toNat 0 = person then e.2.foldl (addO e.1 person) st else st
def wayGo (G : List (List Int)) (T ends : List Int) : Nat → WSt → Option Pth
  | 0, _ => none
  | _ + 1, (_, []) => none
  | n + 1, (ways, p :: rest) => if p ∈ ends then some ((look ways p).getD []) else wayGo G T ends n ((enumI G).foldl (addG T p) (ways, rest))
def wayM (G : List (List Int)) (T : List Int) (s : Int) (ends : List Int) : Option Pth := wayGo G T ends 64 ([(s, [])], [s])
structure WI (st : WSt) : Prop where
  nd : (keys st.1).Nodup
  bd : ∀ p ∈ keys st.1, 0 ≤ p ∧ p ≤ 29
  wt : ∀ p ∈ st.2, p ∈ keys st.1
  pl : ∀ e ∈ st.1, e.2.length < (keys st.1).length
def wmu (st : WSt) : Nat := 2 * (30 - (keys st.1).length) + st.2.length
theorem WI.len {st : WSt} (h : WI st) : (keys st.1).length ≤ 30 := nodup_rng h.nd (n := 30) fun x hx => by have := h.bd x hx; omega
theorem WI.addO {st : WSt} (h : WI st) {a person other : Int} (hp : person ∈ keys st.1) (ho : 0 ≤ other ∧ other ≤ 29) : WI (addO a person st other) ∧ wmu (addO a person st other) ≤ wmu st ∧ (∀ k ∈ keys st.1, k ∈ keys (addO a person st other).1) := by
  unfold K97.addO
  by_cases hs : (look st.1 other).isSome = true
  · rw [if_pos hs]; exact ⟨h, Nat.le_refl _, fun _ q => q⟩
  · rw [if_neg hs]
    have hn : other ∉ keys st.1 := fun z => hs (look_some.mpr z)
    have ek : keys (put st.1 other ((look st.1 person).getD [] ++ [(a, other)])) = keys st.1 ++ [other] := by rw [keys_put, if_neg hn]
    have hW : WI (put st.1 other ((look st.1 person).getD [] ++ [(a, other)]), st.2 ++ [other]) := by
      refine ⟨keys_put_nd h.nd _ _, fun p hq => ?_, fun p hq => ?_, fun e he => ?_⟩
      · rcases mem_keys_put.mp hq with e | e
        · rw [e]; exact ho
        · exact h.bd p e
      · rcases List.mem_append.mp hq with e | e
        · exact mem_keys_put.mpr (.inr (h.wt p e))
        · exact mem_keys_put.mpr (.inl (List.mem_singleton.mp e))
      · show e.2.length < (keys (put st.1 other _)).length
        rw [ek, List.length_append]
        have he' : e ∈ put st.1 other ((look st.1 person).getD [] ++ [(a, other)]) := he
        unfold put at he'
        rw [if_neg hs] at he'
        rcases List.mem_append.mp he' with z | z
        · have := h.pl e z
          simp only [List.length_singleton]; omega
        · rw [List.mem_singleton.mp z]
          obtain ⟨w, hw⟩ := Option.isSome_iff_exists.mp (look_some.mpr hp)
          have := h.pl _ (look_mem hw)
          rw [hw]
          simp only [Option.getD_some, List.length_append, List.length_singleton]
          dsimp only at this
          omega
    refine ⟨hW, ?_, fun k hk => mem_keys_put.mpr (.inr hk)⟩
    have := hW.len
    unfold wmu
    rw [ek, List.length_append, List.length_append] at *
    simp only [List.length_singleton] at *
    omega
theorem WI.fold {a person : Int} : ∀ (g : List Int) (st : WSt), WI st → person ∈ keys st.1 → (∀ o ∈ g, 0 ≤ o ∧ o ≤ 29) → WI (g.foldl (K97.addO a person) st) ∧ wmu (g.foldl (K97.addO a person) st) ≤ wmu st ∧ (∀ k ∈ keys st.1, k ∈ keys (g.foldl (K97.addO a person) st).1)
  | [], st, h, _, _ => ⟨h, Nat.le_refl _, fun _ q => q⟩
  | o :: g, st, h, hp, ho => by
    obtain ⟨h1, h2, h3⟩ := h.addO (a := a) hp (ho o List.mem_cons_self)
    obtain ⟨h4, h5, h6⟩ := WI.fold g _ h1 (h3 _ hp) fun q hq => ho q (List.mem_cons_of_mem _ hq)
    exact ⟨h4, Nat.le_trans h5 h2, fun k hk => h6 k (h3 k hk)⟩
theorem WI.addG {T : List Int} {person : Int} {st : WSt} {e : Int × List Int} (h : WI st) (hp : person ∈ keys st.1) (ho : ∀ o ∈ e.2, 0 ≤ o ∧ o ≤ 29) : WI (K97.addG T person st e) ∧ wmu (K97.addG T person st e) ≤ wmu st ∧ (∀ k ∈ keys st.1, k ∈ keys (K97.addG T person st e).1) := by
  unfold K97.addG
  split
  · exact h.fold _ _ hp ho
  · exact ⟨h, Nat.le_refl _, fun _ q => q⟩
theorem WI.foldG {T : List Int} {person : Int} : ∀ (es : List (Int × List Int)) (st : WSt), WI st → person ∈ keys st.1 → (∀ e ∈ es, ∀ o ∈ e.2, 0 ≤ o ∧ o ≤ 29) → WI (es.foldl (K97.addG T person) st) ∧ wmu (es.foldl (K97.addG T person) st) ≤ wmu st ∧ (∀ k ∈ keys st.1, k ∈ keys (es.foldl (K97.addG T person) st).1)
  | [], st, h, _, _ => ⟨h, Nat.le_refl _, fun _ q => q⟩
  | e :: es, st, h, hp, ho => by
    obtain ⟨h1, h2, h3⟩ := h.addG (T := T) hp (ho e List.mem_cons_self)
    obtain ⟨h4, h5, h6⟩ := WI.foldG es _ h1 (h3 _ hp) fun q hq => ho q (List.mem_cons_of_mem _ hq)
    exact ⟨h4, Nat.le_trans h5 h2, fun k hk => h6 k (h3 k hk)⟩
theorem WI.pop {ways : Wys} {p : Int} {rest : List Int} (h : WI (ways, p :: rest)) : WI (ways, rest) ∧ wmu (ways, rest) < wmu (ways, p :: rest) ∧ p ∈ keys ways :=
  ⟨⟨h.nd, h.bd, fun q hq => h.wt q (List.mem_cons_of_mem _ hq), h.pl⟩, by unfold wmu; dsimp only; rw [List.length_cons]; omega, h.wt p List.mem_cons_self⟩
theorem WI.init {s : Int} (h : 0 ≤ s ∧ s ≤ 29) : WI ([(s, [])], [s]) := ⟨by simp [keys], fun p hp => by simp [keys] at hp; rw [hp]; exact h, fun p hp => by simpa [keys] using hp, fun e he => by simp at he; rw [he]; simp [keys]⟩
theorem mem_enum {α : Type} {xs : List α} {e : Int × α} (h : e ∈ enumI xs) : ∃ k : Nat, e.1 = (k : Int) ∧ xs[k]? = some e.2 := by
  obtain ⟨k, hk⟩ := List.mem_iff_getElem?.mp h
  exact ⟨k, enumI_get hk⟩
end K97

-- part K97h
namespace K97
open PySem PySem.Spec PyProof.Rows L2 DL
abbrev rP : Rep Pth := rL (rT2 rI rI)
section
variable {P : Program} {w : World} {K : PySem.W.Frag} {mg : Str → Option Value} {base : Heap}
abbrev FWayFrom (P : Program) (w : World) (K : PySem.W.Frag) (mg : Str → Option Value) (base : Heap) : Prop := Fn P w K mg base 1 "way_from" sWayFrom ["groups", "taken", "start", "ends"]
  (sp4 (fz (rL (rL rI))) (fz (rL rI)) rI (fz (rL rI)) (rO rP) (fun G T s _ => Grps G ∧ T.length = G.length ∧ 0 ≤ s ∧ s ≤ 29) (fun G T s ends y => y = wayM G T s ends))
theorem fn_way_from {f : Addr} {fd : FuncData} (T : Txt2 mg) (hF : Fun K "way_from" "way_from" sWayFrom f fd) (hm : mg "way_from" = some (.ref f)) (hb : Binds K fd ["groups", "taken", "start", "ends"] []) : FWayFrom P w K mg base := by
  refine fn_mk hF hm hb scWayFrom sp4_len fun cdv A outer s H vs Q E hr ⟨F, cs, v, G, v2, ts, v3, st, v4, ends, e, S, hv, hv2, ⟨hv3⟩, hv4, ⟨hg, hl, hst⟩, k⟩ => ?_
  subst e
  obtain rfl : v3 = .int st := hv3
  refine wss_cons (ws_par rfl scWayFrom.nd (n := 4) (m := 5) rfl rfl (by decide) rfl rfl (we_disp1C (t := rP) (ge_vi (n := 2) rfl rfl) (ge_nil) S fun d1 w1 F1 H1 l1 S1 h1 => we_lstC (ga_cons (r := rI) (ge_vi (n := 2) rfl rfl) ga_nil) S1 (by show 1 ≤ 1000; decide) fun d2 vs2 F2 H2 l2 S2 h2 => ?_))
  refine wss_cons (ws_while (ι := Nat × WSt) (fun i σ H => ∃ F' kvs ws b c d e, Le F F' ∧ σ = [some v, some v2, some (.int st), some v4, some (.ref d1), some (.ref d2), b, c, d, e] ∧ Sta F' ((d2, .lst ws) :: (d1, .dK kvs) :: cs) H ∧ Ens rP F' kvs i.2.1 ∧ Els rI F' ws i.2.2 ∧
      WI i.2 ∧ (wmu i.2 < i.1 ∧ i.1 ≤ 64) ∧ wayGo G ts ends i.1 i.2 = wayM G ts st ends) (fun i => i.1) (64, ([(st, [])], [st])) PassesOwn.never
    ⟨F2, _, _, _, _, _, _, l1.le.trans l2.le, rfl, S2, .cons ⟨rfl, Stable.up (r := rP) l2.le (Sub.refl _) h1⟩ .nil, h2, WI.init hst, ⟨by show 2 * (30 - 1) + 1 < 64; decide, Nat.le_refl _⟩, rfl⟩ ?_)
  rintro ⟨n, ways, wt⟩ σ H3 ⟨F3, kvs, ws, b, c, d, e, l3, rfl, S3, hk, hw, hI, hmu, hgo⟩
  dsimp only at hk hw hI hmu hgo
  refine (gt_c (gc_neD (r := rL rI) (hu64 hr) (by decide) (ge_vc (n := 5) rfl rfl List.mem_cons_self hw) (GE.un ge_nil))).run S3 fun H4 S4 => ite2 (fun h => ?_) (fun h => ?_)
  · have hwt : wt ≠ [] := by simpa using h
    match wt, hwt, hw, hI, hmu, hgo with
    | p :: rest, _, hw, hI, hmu, hgo => ?_
    cases hw with
    | @cons vp _ wrest _ hvp hw' =>
    have l3' := l3.one
    obtain rfl : vp = .int p := hvp
    obtain ⟨hI2, hmu2, hpk⟩ := hI.pop
    obtain ⟨n, rfl⟩ : ∃ m, n = m + 1 := ⟨n - 1, by omega⟩
    refine wss_cons (ws_setW scWayFrom.nd (n := 6) rfl (.inl rfl) (we_pop0 0 (m := 5) rfl rfl S4 rfl fun H5 S5 => ?_))
    have S5 : Sta F3 ((d2, .lst wrest) :: (d1, .dK kvs) :: cs) H5 := S5
    have hlk : ∃ w0, look ways p = some w0 := Option.isSome_iff_exists.mp (look_some.mpr hpk)
    obtain ⟨w0, hw0⟩ := hlk
    refine wss_cons (ws_if (gt_c (gc_inL (ge_vi (n := 6) rfl rfl) (GE.asQ (GE.un (ge_v (n := 3) rfl rfl hv4))))) S5 (fun he H6 S6 => ?_) (fun he H6 S6 => ?_))
    · refine wss_one (ws_ret (ge_some (r := fz rP) (fun _ _ _ _ ⟨a, _, e, _⟩ z => by rw [e] at z; cases z) ((ge_dget (hu1 hr) (ge_vd (n := 4) rfl rfl (.tail _ List.mem_cons_self) hk) (ge_vi (n := 6) rfl rfl) hw0))) S6 fun v7 F7 H7 l7 S7 h7 => ?_)
      refine k (some w0) v7 F7 H7 (l3.one.tr l7) (S7.drop.drop) ⟨h7.h⟩ ?_
      show some w0 = wayM G ts st ends
      rw [← hgo]
      show some w0 = if p ∈ ends then _ else _
      rw [if_pos (of_decide_eq_true he), hw0]; rfl
    · refine wss_nil (wss_one (ws_for (own := [(d2, .lst wrest), (d1, .dK kvs)]) (R := cs) (fun pre F' own' σ' => ∃ kvs ws c d e, own' = [(d2, .lst ws), (d1, .dK kvs)] ∧ Ens rP F' kvs (pre.foldl (addG ts p) (ways, rest)).1 ∧ Els rI F' ws (pre.foldl (addG ts p) (ways, rest)).2 ∧
        σ' = [some v, some v2, some (.int st), some v4, some (.ref d1), some (.ref d2), some (.int p), c, d, e]) PassesOwn.never rfl
        (gi_enum rfl T.enum (ge_v (n := 0) rfl rfl hv)) S6 (gb_t2 rfl (gb_i scWayFrom.nd (i := 7) rfl (.inl rfl)) (gb_n (rL rI) scWayFrom.nd (i := 8) rfl (.inl rfl))) rfl (fun pre F' own' σ' R' _ hR => Sub.nil _)
        (fun F4 l4 => ⟨kvs, wrest, _, _, _, rfl, Ens.up l4.le hk, Els.up l4.le hw', rfl⟩) ?_ ?_))
      · rintro pre ⟨a, g⟩ post F4 F5 own' σ' H7 v7 σ1 R' eG l4 l5 hsR hR S7 ⟨kvs4, ws4, c, d, e, rfl, hk4, hw4, rfl⟩ ⟨u1, u2, σ2, rfl, ⟨hu, rfl⟩⟩
        have hem : (a, g) ∈ enumI G := by rw [eG]; exact List.mem_append_right _ List.mem_cons_self
        obtain ⟨na, ea, hga⟩ := mem_enum hem
        dsimp only at ea hga
        subst ea
        have hgg := hg.ok g (List.mem_of_getElem? hga)
        have hna : na < ts.length := by rw [hl]; exact (List.getElem?_eq_some_iff.mp hga).1
        have hat : ts[na]? = some (ts.getD na 0) := by rw [List.getD_eq_getElem?_getD, List.getElem?_eq_getElem hna]; rfl
        have hall : ∀ e ∈ pre, ∀ o ∈ e.2, 0 ≤ o ∧ o ≤ 29 := fun e he o ho => by
          obtain ⟨k', _, hk'⟩ := mem_enum (show e ∈ enumI G by rw [eG]; exact List.mem_append_left _ he)
          exact (hg.ok _ (List.mem_of_getElem? hk')).bd o ho
        obtain ⟨hI4, hmu4, hin4⟩ := WI.foldG (T := ts) (person := p) pre _ hI2 hpk hall
        have hp4 := hin4 p hpk
        generalize hst4 : pre.foldl (addG ts p) (ways, rest) = st4 at *
        by_cases htp : ts.getD na 0 = p
        · refine wss_one (ws_for (own := [(d2, .lst ws4), (d1, .dK kvs4)]) (R := R') (fun pre F' own' σ' => ∃ kvs ws e, own' = [(d2, .lst ws), (d1, .dK kvs)] ∧ Ens rP F' kvs (pre.foldl (addO na p) st4).1 ∧ Els rI F' ws (pre.foldl (addO na p) st4).2 ∧
            σ' = [some v, some v2, some (.int st), some v4, some (.ref d1), some (.ref d2), some (.int p), some (.int na), some u2, e]) PassesOwn.never rfl
            (gi_list (DL.ge_if (p := true) (gt_is (decide_eq_true htp) (gt_c (gc_eq (ge_ixL (GE.un (ge_v (n := 1) rfl rfl hv2)) (ge_vi (n := 7) rfl rfl) (atI_of hat)) (ge_vi (n := 6) rfl rfl)))) (fun _ => ge_v (n := 8) rfl rfl (show Is (fz (rL rI)) F5 [] u2 g from ⟨hu.h⟩)) (fun z => nomatch z))) S7 (gb_i scWayFrom.nd (i := 9) rfl (.inl rfl)) rfl (fun pre F' own' σ' R' _ hR => Sub.nil _)
            (fun F6 l6 => ⟨kvs4, ws4, _, rfl, Ens.up (l5.le.trans l6.le) hk4, Els.up (l5.le.trans l6.le) hw4, rfl⟩) ?_ ?_)
          · rintro ps o ps2 F6 F7 own6 σ6 H8 v8 σ8 R8 eg l6 l7 hsR8 hR8 S8 ⟨kvs6, ws6, e6, rfl, hk6, hw6, rfl⟩ rfl
            have l6' := l3.one
            have hom : o ∈ g := by rw [eg]; exact List.mem_append_right _ List.mem_cons_self
            obtain ⟨hI6, hmu6, hin6⟩ := WI.fold (a := (na : Int)) (person := p) ps _ hI4 hp4 fun q hq => hgg.bd q (by rw [eg]; exact List.mem_append_left _ hq)
            have hp6 := hin6 p hp4
            have nxt : (ps ++ [o]).foldl (addO na p) st4 = addO na p (ps.foldl (addO na p) st4) o := by rw [List.foldl_append]; rfl
            generalize hst6 : ps.foldl (addO na p) st4 = st6 at *
            have hk7 := Ens.up l7.le hk6
            have hw7 := Els.up l7.le hw6
            have hlen6 := hI6.len
            have hlk : ∃ w6, look st6.1 p = some w6 := Option.isSome_iff_exists.mp (look_some.mpr hp6)
            obtain ⟨w6, hw6'⟩ := hlk
            have hwl := hI6.pl _ (look_mem hw6')
            dsimp only at hwl
            refine wss_one (ws_if (gt_c (gc_ninD (hu1 hr) (ge_vi (n := 9) rfl rfl) (ge_vd (n := 4) rfl rfl (.tail _ List.mem_cons_self) hk7))) S8 (fun ho H9 S9 => ?_) (fun ho H9 S9 => ?_))
            · have ho : (look st6.1 o).isSome = false := by simpa using ho
              refine wss_cons (ws_dput (r := rP) 1 (hu1 hr) (m := 4) rfl rfl S9 rfl
                (ge_lst (ga_star (GE.asQ (GE.un (ge_dget (hu1 hr) (ge_vd (n := 4) rfl rfl (.tail _ List.mem_cons_self) hk7) (ge_vi (n := 6) rfl rfl) hw6'))) (ga_cons (r := rT2 rI rI) (ge_tup2 (ge_vi (n := 7) rfl rfl) (ge_vi (n := 9) rfl rfl)) ga_nil)) (by rw [List.length_append, List.length_singleton]; omega))
                (ge_vi (n := 9) rfl rfl) (by rw [show kvs6.length = _ from Paired.length hk6, sizeLine_eq, ← keys_length]; omega) fun v10 F10 H10 l10 S10 h10 => ?_)
              have S10 : Sta F10 ((d2, .lst ws6) :: (d1, .dK (putK kvs6 (.inl o) v10)) :: R8) H10 := S10
              have hwl6 : ws6.length = st6.2.length := Paired.length hw6
              have hmb : st6.2.length ≤ 100 := by
                have : wmu st6 ≤ wmu st4 := hmu6
                have : wmu st4 ≤ wmu (ways, rest) := hmu4
                have : wmu (ways, rest) < wmu (ways, p :: rest) := hmu2
                have : st6.2.length ≤ wmu st6 := Nat.le_add_left _ _
                omega
              refine wss_one (ws_expr (we_append (r := rI) (x := o) 0 (m := 5) rfl rfl S10 rfl (ge_vi (n := 9) rfl rfl) (by rw [sizeLine_eq]; omega) fun v11 F11 H11 l11 S11 h11 => ⟨F11, _, l10.le.trans l11.le, S11, _, _, _, rfl, ?_, ?_, rfl⟩))
              · rw [nxt]; unfold addO; rw [if_neg (by rw [ho]; simp)]
                rw [hw6']
                exact Ens.up l11.le ((Ens.up l10.le hk7).put h10.h)
              · rw [nxt]; unfold addO; rw [if_neg (by rw [ho]; simp)]
                exact Paired.app (Els.up (l10.le.trans l11.le) hw7) (.cons h11.h .nil)
            · have ho : (look st6.1 o).isSome = true := by simpa using ho
              refine wss_nil ⟨F7, _, Le.refl _, S9, kvs6, ws6, _, rfl, ?_, ?_, rfl⟩
              · rw [nxt]; unfold addO; rw [if_pos ho]; exact hk7
              · rw [nxt]; unfold addO; rw [if_pos ho]; exact hw7
          · rintro F8 own8 σ8 H8 R8 l8 hsR8 hR8 S8 ⟨kvs8, ws8, e8, rfl, hk8, hw8, rfl⟩
            refine ⟨F8, _, l8.le, S8.sub (by simpa using hR8), kvs8, ws8, _, _, _, rfl, ?_, ?_, rfl⟩
            · rw [List.foldl_append, hst4]
              show Ens rP F8 kvs8 (addG ts p st4 (↑na, g)).1
              unfold addG
              rw [if_pos (by simpa using htp)]
              exact hk8
            · rw [List.foldl_append, hst4]
              show Els rI F8 ws8 (addG ts p st4 (↑na, g)).2
              unfold addG
              rw [if_pos (by simpa using htp)]
              exact hw8
        · refine wss_one (ws_for (own := [(d2, .lst ws4), (d1, .dK kvs4)]) (R := R') (fun pre F' own' σ' => ∃ e, own' = [(d2, .lst ws4), (d1, .dK kvs4)] ∧ Le F5 F' ∧
            σ' = [some v, some v2, some (.int st), some v4, some (.ref d1), some (.ref d2), some (.int p), some (.int na), some u2, e]) PassesOwn.never rfl
            (gi_tup (DL.ge_if (p := false) (gt_is (decide_eq_false htp) (gt_c (gc_eq (ge_ixL (GE.un (ge_v (n := 1) rfl rfl hv2)) (ge_vi (n := 7) rfl rfl) (atI_of hat)) (ge_vi (n := 6) rfl rfl)))) (fun z => nomatch z) (fun _ => ge_tnil))) S7 (gb_i scWayFrom.nd (i := 9) rfl (.inl rfl)) rfl (fun pre F' own' σ' R' _ hR => Sub.nil _)
            (fun F6 l6 => ⟨_, rfl, l6.le, rfl⟩) ?_ ?_)
          · rintro pre x post _ _ _ _ _ _ _ _ e
            simp at e
          · rintro F8 own8 σ8 H8 R8 l8 hsR8 hR8 S8 ⟨e8, rfl, hl8, rfl⟩
            refine ⟨F8, _, l8.le, S8.sub (by simpa using hR8), kvs4, ws4, _, _, _, rfl, ?_, ?_, rfl⟩
            · rw [List.foldl_append, hst4]
              show Ens rP F8 kvs4 (addG ts p st4 (↑na, g)).1
              unfold addG
              rw [if_neg (by simpa using htp)]
              exact Ens.up (l5.le.trans l8.le) hk4
            · rw [List.foldl_append, hst4]
              show Els rI F8 ws4 (addG ts p st4 (↑na, g)).2
              unfold addG
              rw [if_neg (by simpa using htp)]
              exact Els.up (l5.le.trans l8.le) hw4
      · rintro F4 own' σ' H7 R' l4 hsR hR S7 ⟨kvs4, ws4, c, d, e, rfl, hk4, hw4, rfl⟩
        have hall : ∀ e ∈ enumI G, ∀ o ∈ e.2, 0 ≤ o ∧ o ≤ 29 := fun e he o ho => by
          obtain ⟨k', _, hk'⟩ := mem_enum he
          exact (hg.ok _ (List.mem_of_getElem? hk')).bd o ho
        obtain ⟨hI4, hmu4, hin4⟩ := WI.foldG (T := ts) (person := p) _ _ hI2 hpk hall
        refine ⟨(n, _), Nat.lt_succ_self n, F4, kvs4, ws4, _, _, _, _, l3.trans l4.le, rfl, S7.sub (by simpa using hR), hk4, hw4, hI4, by dsimp only; omega, ?_⟩
        rw [← hgo]
        show _ = if p ∈ ends then _ else _
        rw [if_neg (of_decide_eq_false he)]
  · have hwt : wt = [] := by simpa using h
    subst hwt
    refine wss_one (ws_ret (r := rO rP) ge_nonO S4 fun v7 F7 H7 l7 S7 h7 => k none v7 F7 H7 (l3.one.tr l7) S7.drop.drop ⟨h7.h⟩ ?_)
    show none = wayM G ts st ends
    rw [← hgo]
    obtain ⟨n, rfl⟩ : ∃ m, n = m + 1 := ⟨n - 1, by omega⟩
    rfl
end
end K97

-- part K97i
/-! k97, ways: plain law -/
namespace K97
open DL
def b1 (x y : Int) : Nat := if x = y then 1 else 0
theorem count_set : ∀ {T : List Int} {k : Nat} {p o x : Int}, T[k]? = some p → (T.set k o).count x + b1 x p = T.count x + b1 x o
  | [], k, p, o, x, h => by simp at h
  | t :: T, 0, p, o, x, h => by
    simp only [List.getElem?_cons_zero, Option.some.injEq] at h
    subst h
    rw [List.set_cons_zero, List.count_cons, List.count_cons]
    unfold b1
    by_cases h1 : o = x <;> by_cases h2 : t = x
    · subst h1; subst h2; simp
    · subst h1; simp [h2, Ne.symm h2]
    · subst h2; simp [h1, Ne.symm h1]
    · simp [h1, h2, Ne.symm h1, Ne.symm h2]
  | t :: T, k + 1, p, o, x, h => by
    rw [List.getElem?_cons_succ] at h
    rw [List.set_cons_succ, List.count_cons, List.count_cons]
    have := count_set (o := o) (x := x) h
    omega
theorem given_snoc (T : List Int) (w : Pth) (e : Int × Int) : givenM T (w ++ [e]) = (givenM T w).set e.1.toNat e.2 := by unfold givenM; rw [List.foldl_append]; rfl
theorem given_get (w : Pth) : ∀ (T : List Int) (k : Nat), (∀ e ∈ w, e.1.toNat ≠ k) → (givenM T w)[k]? = T[k]? := by
  induction w using snoc_ind with
  | h0 => intro T k _; rfl
  | hs w e ih =>
    intro T k h
    rw [given_snoc, List.getElem?_set_ne (h e (List.mem_append_right _ List.mem_cons_self)), ih T k fun e' he' => h e' (List.mem_append_left _ he')]
/-- each group is with one of its own -/
def Tak (G : List (List Int)) (T : List Int) : Prop := T.length = G.length ∧ ∀ (k : Nat) (p : Int) (g : List Int), T[k]? = some p → G[k]? = some g → p ∈ g
theorem Tak.set {G : List (List Int)} {T : List Int} (h : Tak G T) {k : Nat} {g : List Int} {o : Int} (hg : G[k]? = some g) (ho : o ∈ g) : Tak G (T.set k o) := by
  refine ⟨by rw [List.length_set]; exact h.1, fun j p g' hp hg' => ?_⟩
  by_cases e : k = j
  · subst e
    rw [List.getElem?_set_self (by rw [h.1]; exact (List.getElem?_eq_some_iff.mp hg).1)] at hp
    cases hp
    rw [hg] at hg'
    cases hg'
    exact ho
  · rw [List.getElem?_set_ne e] at hp
    exact h.2 j p g' hp hg'
structure PthOk (G : List (List Int)) (T : List Int) (s : Int) (ks : List Int) (p : Int) (w : Pth) : Prop where
  old : ∀ e ∈ w, ∃ (k : Nat) (y : Int), e.1 = (k : Int) ∧ T[k]? = some y ∧ y ∈ ks ∧ y ≠ p
  tak : Tak G (givenM T w)
  cnt : ∀ x, (givenM T w).count x + b1 x s = T.count x + b1 x p
theorem PthOk.mono {G : List (List Int)} {T : List Int} {s : Int} {ks ks' : List Int} {p : Int} {w : Pth} (h : PthOk G T s ks p w) (hk : ∀ k ∈ ks, k ∈ ks') : PthOk G T s ks' p w :=
  ⟨fun e he => let ⟨k, y, a, b, c, d⟩ := h.old e he; ⟨k, y, a, b, hk y c, d⟩, h.tak, h.cnt⟩
theorem PthOk.step {G : List (List Int)} {T : List Int} {s : Int} {ks : List Int} {p : Int} {w : Pth} (h : PthOk G T s ks p w) (hp : p ∈ ks) {k : Nat} {o : Int} {g : List Int} (hk : T[k]? = some p) (hg : G[k]? = some g) (ho : o ∈ g) (hn : o ∉ ks) :
    PthOk G T s (ks ++ [o]) o (w ++ [((k : Int), o)]) := by
  have hne : ∀ e ∈ w, e.1.toNat ≠ k := fun e he z => by
    obtain ⟨k', y, a, b, c, d⟩ := h.old e he
    have : k' = k := by rw [a] at z; simpa using z
    subst this
    rw [hk] at b
    cases b
    exact d rfl
  have hget : (givenM T w)[k]? = some p := by rw [given_get w T k hne, hk]
  have hset : givenM T (w ++ [((k : Int), o)]) = (givenM T w).set k o := by rw [given_snoc]; simp
  refine ⟨fun e he => ?_, ?_, fun x => ?_⟩
  · rcases List.mem_append.mp he with he | he
    · obtain ⟨k', y, a, b, c, d⟩ := h.old e he
      exact ⟨k', y, a, b, List.mem_append_left _ c, fun z => hn (z ▸ c)⟩
    · rw [List.mem_singleton.mp he]
      exact ⟨k, p, rfl, hk, List.mem_append_left _ hp, fun z => hn (z ▸ hp)⟩
  · rw [hset]; exact h.tak.set hg ho
  · rw [hset]
    have h1 := count_set (o := o) (x := x) hget
    have h2 := h.cnt x
    omega
/-- what is seen of q -/
def Seen (G : List (List Int)) (T ends : List Int) (ks : List Int) (q : Int) : Prop := q ∉ ends ∧ ∀ (k : Nat) (g : List Int), T[k]? = some q → G[k]? = some g → ∀ o ∈ g, o ∈ ks
theorem Seen.mono {G : List (List Int)} {T ends ks ks' : List Int} {q : Int} (h : Seen G T ends ks q) (hk : ∀ k ∈ ks, k ∈ ks') : Seen G T ends ks' q := ⟨h.1, fun k g a b o ho => hk o (h.2 k g a b o ho)⟩
structure PI (G : List (List Int)) (T ends : List Int) (s : Int) (ex : Option Int) (st : WSt) : Prop where
  wi : WI st
  sk : s ∈ keys st.1
  ok : ∀ e ∈ st.1, PthOk G T s (keys st.1) e.1 e.2
  cl : ∀ q ∈ keys st.1, q ∉ st.2 → ex ≠ some q → Seen G T ends (keys st.1) q
variable {G : List (List Int)} {T ends : List Int} {s : Int}
theorem PI.addO {ex : Option Int} {st : WSt} (h : PI G T ends s ex st) {k : Nat} {p o : Int} {g : List Int} (hp : p ∈ keys st.1) (hk : T[k]? = some p) (hg : G[k]? = some g) (ho : o ∈ g) (hb : 0 ≤ o ∧ o ≤ 29) :
    PI G T ends s ex (K97.addO k p st o) ∧ o ∈ keys (K97.addO k p st o).1 := by
  obtain ⟨h1, _, h3⟩ := h.wi.addO (a := (k : Int)) hp hb
  unfold K97.addO at *
  by_cases hs : (look st.1 o).isSome = true
  · rw [if_pos hs] at *
    exact ⟨h, look_some.mp hs⟩
  · rw [if_neg hs] at *
    have hn : o ∉ keys st.1 := fun z => hs (look_some.mpr z)
    obtain ⟨w, hw⟩ := Option.isSome_iff_exists.mp (look_some.mpr hp)
    rw [hw] at h1 h3 ⊢
    simp only [Option.getD_some] at h1 h3 ⊢
    have ek : keys (put st.1 o (w ++ [((k : Int), o)])) = keys st.1 ++ [o] := by rw [keys_put, if_neg hn]
    refine ⟨⟨h1, h3 _ h.sk, fun e he => ?_, fun q hq hqn hqe => ?_⟩, mem_keys_put.mpr (.inl rfl)⟩
    · have he' : e ∈ put st.1 o (w ++ [((k : Int), o)]) := he
      unfold put at he'
      rw [if_neg hs] at he'
      show PthOk G T s (keys (put st.1 o (w ++ [((k : Int), o)]))) e.1 e.2
      rw [ek]
      rcases List.mem_append.mp he' with z | z
      · exact (h.ok e z).mono fun k hk => List.mem_append_left _ hk
      · rw [List.mem_singleton.mp z]
        exact (h.ok _ (look_mem hw)).step hp hk hg ho hn
    · rcases mem_keys_put.mp hq with z | z
      · exact absurd (List.mem_append_right _ (List.mem_singleton.mpr z)) hqn
      · exact (h.cl q z (fun z => hqn (List.mem_append_left _ z)) hqe).mono h3
theorem addO_keys (a p : Int) (st : WSt) (o : Int) : ∀ k ∈ keys st.1, k ∈ keys (K97.addO a p st o).1 := fun k hk => by
  unfold K97.addO
  split
  · exact hk
  · exact mem_keys_put.mpr (.inr hk)
theorem PI.fold {ex : Option Int} {k : Nat} {p : Int} {g : List Int} (hk : T[k]? = some p) (hg : G[k]? = some g) (hgb : ∀ o ∈ g, 0 ≤ o ∧ o ≤ 29) : ∀ (l : List Int) (st : WSt), PI G T ends s ex st → p ∈ keys st.1 → (∀ o ∈ l, o ∈ g) →
    PI G T ends s ex (l.foldl (K97.addO k p) st) ∧ (∀ o ∈ l, o ∈ keys (l.foldl (K97.addO k p) st).1) ∧ ∀ q ∈ keys st.1, q ∈ keys (l.foldl (K97.addO k p) st).1
  | [], st, h, _, _ => ⟨h, (fun _ z => by cases z), fun _ z => z⟩
  | o :: l, st, h, hp, hl => by
    have hog := hl o List.mem_cons_self
    obtain ⟨h1, h2⟩ := h.addO hp hk hg hog (hgb o hog)
    have hm := addO_keys (k : Int) p st o
    obtain ⟨h3, h4, h5⟩ := PI.fold hk hg hgb l _ h1 (hm _ hp) fun q hq => hl q (List.mem_cons_of_mem _ hq)
    refine ⟨h3, fun q hq => ?_, fun q hq => h5 q (hm q hq)⟩
    rcases List.mem_cons.mp hq with e | e
    · rw [e]; exact h5 o h2
    · exact h4 q e
theorem PI.foldG {ex : Option Int} {p : Int} (hT : T.length = G.length) (hG : ∀ g ∈ G, ∀ o ∈ g, 0 ≤ o ∧ o ≤ 29) : ∀ (es : List (Int × List Int)) (st : WSt), PI G T ends s ex st → p ∈ keys st.1 → (∀ e ∈ es, ∃ k : Nat, e.1 = (k : Int) ∧ G[k]? = some e.2) →
    PI G T ends s ex (es.foldl (K97.addG T p) st) ∧ (∀ e ∈ es, ∀ k : Nat, e.1 = (k : Int) → T[k]? = some p → ∀ o ∈ e.2, o ∈ keys (es.foldl (K97.addG T p) st).1) ∧ ∀ q ∈ keys st.1, q ∈ keys (es.foldl (K97.addG T p) st).1
  | [], st, h, _, _ => ⟨h, (fun _ z => by cases z), fun _ z => z⟩
  | e :: es, st, h, hp, hl => by
    obtain ⟨k, ek, hg⟩ := hl e List.mem_cons_self
    have hlt : k < T.length := by rw [hT]; exact (List.getElem?_eq_some_iff.mp hg).1
    have hat : T[k]? = some (T.getD k 0) := by rw [List.getD_eq_getElem?_getD, List.getElem?_eq_getElem hlt]; rfl
    have step : PI G T ends s ex (K97.addG T p st e) ∧ (T[k]? = some p → ∀ o ∈ e.2, o ∈ keys (K97.addG T p st e).1) ∧ ∀ q ∈ keys st.1, q ∈ keys (K97.addG T p st e).1 := by
      unfold K97.addG
      rw [ek, Int.toNat_natCast]
      split
      · rename_i hh
        rw [hh] at hat
        obtain ⟨a, b, c⟩ := PI.fold hat hg (hG _ (List.mem_of_getElem? hg)) e.2 st h hp fun _ z => z
        exact ⟨a, fun _ => b, c⟩
      · rename_i hh
        exact ⟨h, fun z => absurd (Option.some.inj (hat.symm.trans z)) hh, fun _ z => z⟩
    obtain ⟨h1, h2, hm⟩ := step
    obtain ⟨h3, h4, h5⟩ := PI.foldG hT hG es _ h1 (hm _ hp) fun q hq => hl q (List.mem_cons_of_mem _ hq)
    refine ⟨h3, fun q hq k' ek' hk' => ?_, fun q hq => h5 q (hm q hq)⟩
    rcases List.mem_cons.mp hq with z | z
    · rw [z] at ek' ⊢
      have : k' = k := by omega
      subst this
      exact fun o ho => h5 o (h2 hk' o ho)
    · exact h4 q z k' ek' hk'
theorem enum_mem {α : Type} {xs : List α} {k : Nat} {x : α} (h : xs[k]? = some x) : ((k : Int), x) ∈ enumI xs := by
  have hk : k < xs.length := (List.getElem?_eq_some_iff.mp h).1
  have : (enumI xs)[k]? = some ((k : Int), x) := by
    unfold enumI
    rw [List.getElem?_zip_eq_some]
    refine ⟨?_, h⟩
    unfold rng
    rw [List.getElem?_map, List.getElem?_range hk]
    simp
  exact List.mem_of_getElem? this
/-- what a way does, or why there is none -/
def WayIs (G : List (List Int)) (T : List Int) (s : Int) (ends : List Int) : Option Pth → Prop
  | some w => ∃ p ∈ ends, (∀ e ∈ w, 0 ≤ e.1 ∧ e.1 < T.length) ∧ Tak G (givenM T w) ∧ ∀ x, (givenM T w).count x + b1 x s = T.count x + b1 x p
  | none => ∃ C : List Int, s ∈ C ∧ (∀ p ∈ C, p ∉ ends) ∧ ∀ (k : Nat) (p : Int) (g : List Int), T[k]? = some p → G[k]? = some g → p ∈ C → ∀ o ∈ g, o ∈ C
theorem go_is (hT : T.length = G.length) (hG : ∀ g ∈ G, ∀ o ∈ g, 0 ≤ o ∧ o ≤ 29) : ∀ (n : Nat) (st : WSt), PI G T ends s none st → wmu st < n → WayIs G T s ends (wayGo G T ends n st)
  | 0, st, _, h => by omega
  | n + 1, (ways, []), h, _ => ⟨keys ways, h.sk, fun p hp => (h.cl p hp (fun z => nomatch z) (fun z => nomatch z)).1, fun k p g hk hg hp => (h.cl p hp (fun z => nomatch z) (fun z => nomatch z)).2 k g hk hg⟩
  | n + 1, (ways, p :: rest), h, hm => by
    obtain ⟨hI2, hmu2, hpk⟩ := h.wi.pop
    unfold wayGo
    split
    · rename_i hp
      obtain ⟨w, hw⟩ := Option.isSome_iff_exists.mp (look_some.mpr hpk)
      rw [hw]
      have := h.ok _ (look_mem hw)
      refine ⟨p, hp, fun e he => ?_, this.tak, this.cnt⟩
      obtain ⟨k, y, a, b, _⟩ := this.old e he
      have := (List.getElem?_eq_some_iff.mp b).1
      omega
    · rename_i hp
      have hst : PI G T ends s (some p) (ways, rest) := ⟨hI2, h.sk, h.ok, fun q hq hqn hqe => h.cl q hq (fun z => (List.mem_cons.mp z).elim (fun e => hqe (by rw [e])) hqn) (fun z => nomatch z)⟩
      obtain ⟨h1, h2, h3⟩ := PI.foldG hT hG (p := p) (enumI G) _ hst hpk fun e he => mem_enum he
      obtain ⟨_, h5, _⟩ := hI2.foldG (T := T) (person := p) (enumI G) _ hpk fun e he o ho => by
        obtain ⟨k, _, hk⟩ := mem_enum he
        exact hG _ (List.mem_of_getElem? hk) o ho
      refine go_is hT hG n _ ⟨h1.wi, h1.sk, h1.ok, fun q hq hqn _ => ?_⟩ (by omega)
      by_cases e : q = p
      · subst e
        exact ⟨hp, fun k g hk hg o ho => h2 _ (enum_mem hg) k rfl hk o ho⟩
      · exact h1.cl q hq hqn fun z => e (Option.some.inj z).symm
theorem way_is (hG : ∀ g ∈ G, Grp g) (hT : Tak G T) (hs : 0 ≤ s ∧ s ≤ 29) : WayIs G T s ends (wayM G T s ends) := by
  refine go_is hT.1 (fun g hg => (hG g hg).bd) 64 _ ⟨WI.init hs, by simp [keys], fun e he => ?_, fun q hq hqn => ?_⟩ (by show 2 * (30 - 1) + 1 < 64; decide)
  · rw [List.mem_singleton.mp he]
    exact ⟨(fun _ z => by cases z), hT, fun x => rfl⟩
  · exact absurd hq hqn
end K97

-- part K97k
/-! k97, fair turns: plain law -/
namespace K97
open DL
theorem sum_le {α : Type} {f g : α → Int} : ∀ {l : List α}, (∀ x ∈ l, f x ≤ g x) → (l.map f).sum ≤ (l.map g).sum
  | [], _ => Int.le_refl _
  | x :: l, h => by
    have := h x List.mem_cons_self
    have := sum_le (l := l) fun y hy => h y (List.mem_cons_of_mem _ hy)
    simp only [List.map_cons, List.sum_cons]
    omega
theorem sum_lt {α : Type} {f g : α → Int} : ∀ {l : List α}, (∀ x ∈ l, f x ≤ g x) → (∃ x ∈ l, f x < g x) → (l.map f).sum < (l.map g).sum
  | [], _, ⟨_, h, _⟩ => nomatch h
  | x :: l, h, ⟨y, hy, hl⟩ => by
    have h1 := h x List.mem_cons_self
    have h2 := sum_le (l := l) fun y hy => h y (List.mem_cons_of_mem _ hy)
    simp only [List.map_cons, List.sum_cons]
    rcases List.mem_cons.mp hy with rfl | hy
    · omega
    · have := sum_lt (l := l) (fun y hy => h y (List.mem_cons_of_mem _ hy)) ⟨y, hy, hl⟩
      omega
theorem sum_add {α : Type} {f g : α → Int} : ∀ {l : List α}, (l.map fun x => f x + g x).sum = (l.map f).sum + (l.map g).sum
  | [] => rfl
  | x :: l => by
    simp only [List.map_cons, List.sum_cons]
    rw [sum_add (l := l)]; omega
theorem sum_zero {α : Type} : ∀ {l : List α}, (l.map fun _ => (0 : Int)).sum = 0
  | [] => rfl
  | x :: l => by simp only [List.map_cons, List.sum_cons]; rw [sum_zero (l := l)]; rfl
theorem sum_mul {α : Type} {f : α → Int} (c : Int) : ∀ {l : List α}, (l.map fun x => c * f x).sum = c * (l.map f).sum
  | [] => by simp
  | x :: l => by
    simp only [List.map_cons, List.sum_cons]
    rw [sum_mul c (l := l), Int.mul_add]
/-- how many of C are in g -/
def nIn (C g : List Int) : Int := (C.map fun p => if p ∈ g then (1 : Int) else 0).sum
theorem sum_ite_eq {C : List Int} (nd : C.Nodup) (t : Int) : (C.map fun p => if t = p then (1 : Int) else 0).sum = if t ∈ C then 1 else 0 := by
  induction C with
  | nil => rfl
  | cons c C ih =>
    rw [List.nodup_cons] at nd
    simp only [List.map_cons, List.sum_cons]
    rw [ih nd.2]
    by_cases h : t = c
    · subst h
      rw [if_pos rfl, if_neg nd.1, if_pos List.mem_cons_self]; rfl
    · rw [if_neg h]
      by_cases h2 : t ∈ C
      · rw [if_pos h2, if_pos (List.mem_cons_of_mem _ h2)]; rfl
      · rw [if_neg h2, if_neg fun z => (List.mem_cons.mp z).elim h h2]; rfl
theorem nIn_cons {C : List Int} (nd : C.Nodup) {x : Int} {g : List Int} (hx : x ∉ g) : nIn C (x :: g) = nIn C g + if x ∈ C then 1 else 0 := by
  rw [← sum_ite_eq nd, nIn, nIn, ← sum_add]
  congr 1
  refine List.map_congr_left fun p _ => ?_
  by_cases h : x = p
  · subst h
    rw [if_pos List.mem_cons_self, if_neg hx, if_pos rfl]; rfl
  · rw [if_neg h]
    by_cases h2 : p ∈ g
    · rw [if_pos h2, if_pos (List.mem_cons_of_mem _ h2)]; rfl
    · rw [if_neg h2, if_neg fun z => (List.mem_cons.mp z).elim (fun e => h e.symm) h2]; rfl
theorem nIn_nil (C : List Int) : nIn C [] = 0 := by
  unfold nIn
  simp only [List.not_mem_nil, if_false]
  exact sum_zero
theorem nIn_le {C : List Int} (nd : C.Nodup) : ∀ {g : List Int}, g.Nodup → nIn C g ≤ g.length ∧ 0 ≤ nIn C g
  | [], _ => by rw [nIn_nil]; exact ⟨Int.le_refl _, Int.le_refl _⟩
  | x :: g, h => by
    rw [List.nodup_cons] at h
    rw [nIn_cons nd h.1, List.length_cons]
    have := nIn_le nd h.2
    split <;> omega
theorem nIn_all {C : List Int} (nd : C.Nodup) : ∀ {g : List Int}, g.Nodup → (∀ x ∈ g, x ∈ C) → nIn C g = g.length
  | [], _, _ => nIn_nil C
  | x :: g, h, hx => by
    rw [List.nodup_cons] at h
    rw [nIn_cons nd h.1, List.length_cons, nIn_all nd h.2 fun y hy => hx y (List.mem_cons_of_mem _ hy), if_pos (hx x List.mem_cons_self)]
    omega
theorem nIn_none {C g : List Int} (h : ∀ x ∈ g, x ∉ C) : nIn C g = 0 := by
  unfold nIn
  have : (C.map fun p => if p ∈ g then (1 : Int) else 0) = C.map fun _ => 0 := List.map_congr_left fun p hp => if_neg fun z => h p z hp
  rw [this]; exact sum_zero
theorem per60 {n : Int} (h0 : 0 < n) (h6 : n ≤ 6) : n * (60 / n) = 60 := by
  have : n = 1 ∨ n = 2 ∨ n = 3 ∨ n = 4 ∨ n = 5 ∨ n = 6 := by omega
  rcases this with rfl | rfl | rfl | rfl | rfl | rfl <;> decide
theorem Sv_cons (g : List Int) (G : List (List Int)) (p : Int) : Sv (g :: G) p = (60 / (g.length : Int)) * (if p ∈ g then 1 else 0) + Sv G p := by
  unfold Sv
  rw [List.map_cons, List.sum_cons]
  split <;> simp
def cn (T : List Int) (p : Int) : Int := ((T.count p : Nat) : Int)
theorem cn_cons (t : Int) (T : List Int) (p : Int) : cn (t :: T) p = (if t = p then 1 else 0) + cn T p := by
  unfold cn
  rw [List.count_cons]
  by_cases h : t = p
  · subst h; simp; omega
  · simp [h]
theorem S_cons (C : List Int) (g : List Int) (G : List (List Int)) : (C.map (Sv (g :: G))).sum = (60 / (g.length : Int)) * nIn C g + (C.map (Sv G)).sum := by
  unfold nIn
  rw [← sum_mul, ← sum_add]
  exact congrArg List.sum (List.map_congr_left fun p _ => Sv_cons g G p)
theorem c_cons {C : List Int} (nd : C.Nodup) (t : Int) (T : List Int) : (C.map (cn (t :: T))).sum = (if t ∈ C then 1 else 0) + (C.map (cn T)).sum := by
  rw [← sum_ite_eq nd, ← sum_add]
  exact congrArg List.sum (List.map_congr_left fun p _ => cn_cons t T p)
theorem closed_le {C : List Int} (nd : C.Nodup) : ∀ {G : List (List Int)} {T : List Int}, T.length = G.length → (∀ g ∈ G, Grp g) → (∀ (k : Nat) (p : Int) (g : List Int), T[k]? = some p → G[k]? = some g → p ∈ C → ∀ o ∈ g, o ∈ C) → 60 * (C.map (cn T)).sum ≤ (C.map (Sv G)).sum
  | [], [], _, _, _ => by
    have h1 : C.map (cn []) = C.map fun _ => 0 := List.map_congr_left fun p _ => rfl
    have h2 : C.map (Sv []) = C.map fun _ => 0 := List.map_congr_left fun p _ => rfl
    rw [h1, h2, sum_zero]; decide
  | [], _ :: _, h, _, _ => by simp at h
  | _ :: _, [], h, _, _ => by simp at h
  | g :: G, t :: T, h, hG, hc => by
    have ih := closed_le nd (G := G) (T := T) (by simpa using h) (fun g' hg' => hG g' (List.mem_cons_of_mem _ hg')) fun k p g' a b => hc (k + 1) p g' (by simpa using a) (by simpa using b)
    have hg := hG g List.mem_cons_self
    have h60 := per60 hg.pos hg.le6
    have hn := nIn_le nd hg.nd
    rw [S_cons, c_cons nd]
    have hw : 0 ≤ 60 / (g.length : Int) := Int.ediv_nonneg (by decide) (by omega)
    by_cases ht : t ∈ C
    · have := nIn_all nd hg.nd (hc 0 t g rfl rfl ht)
      rw [if_pos ht, this, Int.mul_comm (60 / (g.length : Int)), h60]; omega
    · have : 0 ≤ (60 / (g.length : Int)) * nIn C g := Int.mul_nonneg hw hn.2
      rw [if_neg ht]; omega
theorem apart_ge {C : List Int} (nd : C.Nodup) : ∀ {G : List (List Int)} {T : List Int}, T.length = G.length → (∀ g ∈ G, Grp g) → (∀ (k : Nat) (p : Int) (g : List Int), T[k]? = some p → G[k]? = some g → p ∉ C → ∀ o ∈ g, o ∉ C) → (C.map (Sv G)).sum ≤ 60 * (C.map (cn T)).sum
  | [], [], _, _, _ => by
    have h1 : C.map (cn []) = C.map fun _ => 0 := List.map_congr_left fun p _ => rfl
    have h2 : C.map (Sv []) = C.map fun _ => 0 := List.map_congr_left fun p _ => rfl
    rw [h1, h2, sum_zero]; decide
  | [], _ :: _, h, _, _ => by simp at h
  | _ :: _, [], h, _, _ => by simp at h
  | g :: G, t :: T, h, hG, hc => by
    have ih := apart_ge nd (G := G) (T := T) (by simpa using h) (fun g' hg' => hG g' (List.mem_cons_of_mem _ hg')) fun k p g' a b => hc (k + 1) p g' (by simpa using a) (by simpa using b)
    have hg := hG g List.mem_cons_self
    have h60 := per60 hg.pos hg.le6
    have hn := nIn_le nd hg.nd
    rw [S_cons, c_cons nd]
    have hw : 0 ≤ 60 / (g.length : Int) := Int.ediv_nonneg (by decide) (by omega)
    by_cases ht : t ∈ C
    · have : (60 / (g.length : Int)) * nIn C g ≤ (60 / (g.length : Int)) * g.length := Int.mul_le_mul_of_nonneg_left hn.1 hw
      rw [Int.mul_comm _ (g.length : Int), h60] at this
      rw [if_pos ht]; omega
    · have := nIn_none (hc 0 t g rfl rfl ht)
      rw [if_neg ht, this]; omega
theorem Sv_zero {G : List (List Int)} {p : Int} (h : ∀ g ∈ G, p ∉ g) : Sv G p = 0 := by
  unfold Sv
  have : (G.map fun g => if p ∈ g then 60 / (g.length : Int) else 0) = G.map fun _ => 0 := List.map_congr_left fun g hg => if_neg (h g hg)
  rw [this]; exact sum_zero
/-! ### counts -/
theorem look_turns (T : List Int) (p : Int) : (look (turnsM T) p).getD 0 = cn T p := by
  have : ∀ (l : List Int) (d : List (Int × Int)), look (l.foldl (fun d q => put d q ((T.count q : Nat) : Int)) d) p = if p ∈ l then some (cn T p) else look d p := by
    intro l
    induction l with
    | nil => intro d; rfl
    | cons q l ih =>
      intro d
      rw [List.foldl_cons, ih, look_put]
      by_cases h : p ∈ l
      · rw [if_pos h, if_pos (List.mem_cons_of_mem _ h)]
      · rw [if_neg h]
        by_cases h2 : p = q
        · subst h2; rw [if_pos rfl, if_pos List.mem_cons_self]; rfl
        · rw [if_neg h2, if_neg fun z => (List.mem_cons.mp z).elim h2 h]
  unfold turnsM
  rw [this]
  split
  · rfl
  · rename_i h
    show (0 : Int) = cn T p
    unfold cn
    rw [List.count_eq_zero.mpr h]; rfl
/-! ### bounds -/
/-- B has those of the groups, each with b: 60 b about the share -/
structure Bds (G : List (List Int)) (lo hi : Int) (B : List (Int × Int)) : Prop where
  nd : (keys B).Nodup
  bd : ∀ p ∈ keys B, 0 ≤ p ∧ p ≤ 29
  out : ∀ p, p ∉ keys B → ∀ g ∈ G, p ∉ g
  ok : ∀ p b, look B p = some b → Sv G p + lo ≤ 60 * b ∧ 60 * b ≤ Sv G p + hi
theorem Bds.cn0 {G : List (List Int)} {lo hi : Int} {B : List (Int × Int)} (h : Bds G lo hi B) {T : List Int} (hT : Tak G T) {p : Int} (hp : p ∉ keys B) : cn T p = 0 := by
  unfold cn
  rw [List.count_eq_zero.mpr fun z => ?_]
  · rfl
  · obtain ⟨k, hk⟩ := List.mem_iff_getElem?.mp z
    have hlt : k < G.length := by rw [← hT.1]; exact (List.getElem?_eq_some_iff.mp hk).1
    exact h.out p hp _ (List.getElem_mem hlt) (hT.2 k p _ hk (List.getElem?_eq_getElem hlt))
/-- what is left to do -/
def exc (B : List (Int × Int)) (T : List Int) : Nat := (B.map fun e => (cn T e.1 - e.2).toNat).sum
def lck (B : List (Int × Int)) (T : List Int) : Nat := (B.map fun e => (e.2 - cn T e.1).toNat).sum
theorem nsum_lt {α : Type} {f g : α → Nat} : ∀ {l : List α}, (∀ x ∈ l, f x ≤ g x) → (∃ x ∈ l, f x < g x) → (l.map f).sum < (l.map g).sum
  | [], _, ⟨_, h, _⟩ => nomatch h
  | x :: l, h, ⟨y, hy, hl⟩ => by
    have h1 := h x List.mem_cons_self
    have h2 : (l.map f).sum ≤ (l.map g).sum := by
      clear hy hl h1
      induction l with
      | nil => exact Nat.le_refl _
      | cons a l ih =>
        have := h a (by simp)
        have := ih fun z hz => h z (by rcases List.mem_cons.mp hz with e | e <;> simp [e])
        simp only [List.map_cons, List.sum_cons]; omega
    simp only [List.map_cons, List.sum_cons]
    rcases List.mem_cons.mp hy with rfl | hy
    · omega
    · have := nsum_lt (l := l) (fun y hy => h y (List.mem_cons_of_mem _ hy)) ⟨y, hy, hl⟩
      omega
theorem cn_shift {T T' : List Int} {s p : Int} (h : ∀ x, T'.count x + b1 x s = T.count x + b1 x p) (hne : s ≠ p) (x : Int) : cn T' x = if x = s then cn T x - 1 else if x = p then cn T x + 1 else cn T x := by
  have := h x
  unfold cn b1 at *
  by_cases h1 : x = s
  · subst h1; rw [if_pos rfl, if_neg hne] at this; rw [if_pos rfl]; omega
  · rw [if_neg h1] at this ⊢
    by_cases h2 : x = p
    · rw [if_pos h2] at this ⊢; omega
    · rw [if_neg h2] at this ⊢; omega
def bv (B : List (Int × Int)) (p : Int) : Int := (look B p).getD 0
theorem bv_mem {B : List (Int × Int)} {p : Int} (h : p ∈ keys B) : look B p = some (bv B p) := by
  obtain ⟨b, hb⟩ := Option.isSome_iff_exists.mp (look_some.mpr h)
  unfold bv; rw [hb]; rfl
theorem bv_of {B : List (Int × Int)} (nd : (keys B).Nodup) {e : Int × Int} (h : e ∈ B) : bv B e.1 = e.2 := by
  unfold bv; rw [look_of_mem nd (show (e.1, e.2) ∈ B from h)]; rfl
theorem mem_keys {B : List (Int × Int)} {e : Int × Int} (h : e ∈ B) : e.1 ∈ keys B := List.mem_map.mpr ⟨e, h, rfl⟩
theorem keys_mem {B : List (Int × Int)} {p : Int} (h : p ∈ keys B) : (p, bv B p) ∈ B := look_mem (bv_mem h)
variable {G : List (List Int)} {T : List Int} {B : List (Int × Int)}
theorem dedup_ex : ∀ l : List Int, ∃ l' : List Int, l'.Nodup ∧ ∀ x, x ∈ l' ↔ x ∈ l
  | [] => ⟨[], List.nodup_nil, fun _ => Iff.rfl⟩
  | x :: l => by
    obtain ⟨l', nd, h⟩ := dedup_ex l
    by_cases hx : x ∈ l'
    · exact ⟨l', nd, fun y => by rw [h y, List.mem_cons]; exact ⟨.inr, fun z => z.elim (fun e => (h y).mp (e ▸ hx)) id⟩⟩
    · exact ⟨x :: l', List.nodup_cons.mpr ⟨hx, nd⟩, fun y => by rw [List.mem_cons, List.mem_cons, h y]⟩
theorem rng_nodup (lo : Int) (n : Nat) : (rng lo n).Nodup := by
  unfold rng
  refine List.pairwise_map.mpr ((List.nodup_range (n := n)).imp fun h e => h (by omega))
open Classical in
theorem filt_ex (n : Nat) (Q : Int → Prop) : ∃ R : List Int, R.Nodup ∧ ∀ q, q ∈ R ↔ (0 ≤ q ∧ q < n) ∧ Q q :=
  ⟨(rng 0 n).filter fun q => decide (Q q), (rng_nodup 0 n).sublist List.filter_sublist, fun q => by
    rw [List.mem_filter, mem_rng, decide_eq_true_eq]
    exact ⟨fun ⟨a, b⟩ => ⟨by omega, b⟩, fun ⟨a, b⟩ => ⟨by omega, b⟩⟩⟩
theorem less_way (hG : ∀ g ∈ G, Grp g) (hT : Tak G T) (hB : Bds G 0 59 B) {s : Int} (hs : s ∈ keys B) (ho : bv B s < cn T s) {room : List Int} (hr : ∀ p, p ∈ room ↔ p ∈ keys B ∧ cn T p < bv B p) :
    ∃ w, wayM G T s room = some w ∧ (∀ e ∈ w, 0 ≤ e.1 ∧ e.1 < T.length) ∧ Tak G (givenM T w) ∧ exc B (givenM T w) < exc B T := by
  have hw := way_is (ends := room) hG hT (hB.bd s hs)
  cases he : wayM G T s room with
  | none =>
    rw [he] at hw
    obtain ⟨C, hsC, hCn, hC⟩ := hw
    exfalso
    obtain ⟨C', nd, mem⟩ := dedup_ex C
    have h1 := closed_le nd hT.1 hG fun k p g a b hp o hog => (mem o).mpr (hC k p g a b ((mem p).mp hp) o hog)
    have h2 : (C'.map (Sv G)).sum < (C'.map fun p => 60 * cn T p).sum := by
      refine sum_lt (fun p hp => ?_) ⟨s, (mem s).mpr hsC, ?_⟩
      · by_cases hk : p ∈ keys B
        · have := (hB.ok p _ (bv_mem hk)).1
          have : ¬ (cn T p < bv B p) := fun z => hCn p ((mem p).mp hp) ((hr p).mpr ⟨hk, z⟩)
          omega
        · rw [Sv_zero (hB.out p hk), hB.cn0 hT hk]; decide
      · have := (hB.ok s _ (bv_mem hs)).1
        omega
    rw [sum_mul] at h2
    omega
  | some w =>
    rw [he] at hw
    obtain ⟨p, hp, hb, hTk, hc⟩ := hw
    obtain ⟨hpk, hpl⟩ := (hr p).mp hp
    have hne : s ≠ p := fun e => by rw [e] at ho; omega
    have hcn := cn_shift hc hne
    refine ⟨w, rfl, hb, hTk, nsum_lt (fun e he => ?_) ⟨_, keys_mem hs, ?_⟩⟩
    · have := bv_of hB.nd he
      rw [hcn e.1]
      by_cases h1 : e.1 = s
      · rw [if_pos h1]; omega
      · rw [if_neg h1]
        by_cases h2 : e.1 = p
        · rw [if_pos h2]; rw [h2] at this; rw [h2]; omega
        · rw [if_neg h2]; exact Nat.le_refl _
    · show (cn (givenM T w) s - bv B s).toNat < (cn T s - bv B s).toNat
      rw [hcn s, if_pos rfl]; omega
/-- counts are not above -/
def NotOver (G : List (List Int)) (T : List Int) : Prop := ∀ p, 60 * cn T p < Sv G p + 60
theorem less_end (hT : Tak G T) (hB : Bds G 0 59 B) (h : ∀ p ∈ keys B, ¬ bv B p < cn T p) : NotOver G T := fun p => by
  by_cases hk : p ∈ keys B
  · have := (hB.ok p _ (bv_mem hk)).2
    have := h p hk
    omega
  · rw [Sv_zero (hB.out p hk), hB.cn0 hT hk]; decide
theorem raise_some (hG : ∀ g ∈ G, Grp g) (hT : Tak G T) (hB : Bds G (-59) 0 B) {u : Int} (hu : u ∈ keys B) (hl : cn T u < bv B u) {rich : List Int} (hr : ∀ p, p ∈ rich ↔ p ∈ keys B ∧ bv B p < cn T p) :
    ∃ p ∈ rich, wayM G T p [u] ≠ none := by
  refine Classical.byContradiction fun hno => ?_
  have hno : ∀ p ∈ rich, wayM G T p [u] = none := fun p hp => Classical.byContradiction fun z => hno ⟨p, hp, z⟩
  have hcl : ∀ p ∈ rich, ∃ C : List Int, p ∈ C ∧ (∀ q ∈ C, q ∉ [u]) ∧ ∀ (k : Nat) (p : Int) (g : List Int), T[k]? = some p → G[k]? = some g → p ∈ C → ∀ o ∈ g, o ∈ C := fun p hp => by
    have hw := way_is (ends := [u]) hG hT (hB.bd p ((hr p).mp hp).1)
    rw [hno p hp] at hw
    exact hw
  obtain ⟨R, nd, memR⟩ := filt_ex 30 fun q => ¬ ∃ p, ∃ hp : p ∈ rich, q ∈ (hcl p hp).choose
  have hapart := apart_ge nd hT.1 hG fun k p g a b hp o hog hoR => by
    have hpg := hT.2 k p g a b
    have hpb := (hG g (List.mem_of_getElem? b)).bd p hpg
    have : ∃ r, ∃ hr : r ∈ rich, p ∈ (hcl r hr).choose := Classical.byContradiction fun z => hp ((memR p).mpr ⟨by omega, z⟩)
    obtain ⟨r, hrr, hpr⟩ := this
    exact ((memR o).mp hoR).2 ⟨r, hrr, (hcl r hrr).choose_spec.2.2 k p g a b hpr o hog⟩
  have huR : u ∈ R := (memR u).mpr ⟨by have := hB.bd u hu; omega, fun ⟨p, hp, hq⟩ => (hcl p hp).choose_spec.2.1 u hq List.mem_cons_self⟩
  have h2 : (R.map fun p => 60 * cn T p).sum < (R.map (Sv G)).sum := by
    refine sum_lt (fun p hp => ?_) ⟨u, huR, ?_⟩
    · by_cases hk : p ∈ keys B
      · have := (hB.ok p _ (bv_mem hk)).2
        have : ¬ (bv B p < cn T p) := fun z => ((memR p).mp hp).2 ⟨p, (hr p).mpr ⟨hk, z⟩, (hcl p ((hr p).mpr ⟨hk, z⟩)).choose_spec.1⟩
        omega
      · rw [Sv_zero (hB.out p hk), hB.cn0 hT hk]; decide
    · have := (hB.ok u _ (bv_mem hu)).2
      omega
  rw [sum_mul] at h2
  omega
theorem raise_way (hG : ∀ g ∈ G, Grp g) (hT : Tak G T) (hB : Bds G (-59) 0 B) (hN : NotOver G T) {u s : Int} (hu : u ∈ keys B) (hl : cn T u < bv B u) (hs : s ∈ keys B) (hsr : bv B s < cn T s) {w : Pth} (he : wayM G T s [u] = some w) :
    (∀ e ∈ w, 0 ≤ e.1 ∧ e.1 < T.length) ∧ Tak G (givenM T w) ∧ lck B (givenM T w) < lck B T ∧ NotOver G (givenM T w) := by
  have hw := way_is (ends := [u]) hG hT (hB.bd s hs)
  rw [he] at hw
  obtain ⟨p, hp, hb, hTk, hc⟩ := hw
  obtain rfl := List.mem_singleton.mp hp
  have hne : s ≠ p := fun e => by rw [e] at hsr; omega
  have hcn := cn_shift hc hne
  refine ⟨hb, hTk, nsum_lt (fun e he => ?_) ⟨_, keys_mem hu, ?_⟩, fun x => ?_⟩
  · have := bv_of hB.nd he
    rw [hcn e.1]
    by_cases h1 : e.1 = s
    · rw [if_pos h1]; rw [h1] at this; rw [h1]; omega
    · rw [if_neg h1]
      by_cases h2 : e.1 = p
      · rw [if_pos h2]; omega
      · rw [if_neg h2]; exact Nat.le_refl _
  · show (bv B p - cn (givenM T w) p).toNat < (bv B p - cn T p).toNat
    rw [hcn p, if_neg (Ne.symm hne), if_pos rfl]; omega
  · have := hN x
    rw [hcn x]
    by_cases h1 : x = s
    · rw [if_pos h1]; omega
    · rw [if_neg h1]
      by_cases h2 : x = p
      · rw [if_pos h2, h2]
        have := (hB.ok p _ (bv_mem hu)).2
        omega
      · rw [if_neg h2]; exact this
structure FairT (G : List (List Int)) (T : List Int) : Prop where
  tak : Tak G T
  le : ∀ p, 60 * cn T p < Sv G p + 60
  ge : ∀ p, Sv G p < 60 * cn T p + 60
theorem raise_end (hT : Tak G T) (hB : Bds G (-59) 0 B) (hN : NotOver G T) (h : ∀ p ∈ keys B, ¬ cn T p < bv B p) : FairT G T := ⟨hT, hN, fun p => by
  by_cases hk : p ∈ keys B
  · have := (hB.ok p _ (bv_mem hk)).1
    have := h p hk
    omega
  · rw [Sv_zero (hB.out p hk), hB.cn0 hT hk]; decide⟩
end K97

-- part K97l
namespace K97
open PySem PySem.Spec PyProof.Rows L2 DL
abbrev sLessened : Stmt := topS 25
theorem scLessened : FnScope ["groups", "taken", "bounds", "counts", "over", "room", "person"] ["groups", "taken", "bounds"] (defScope sLessened) := ⟨rfl, rfl, rfl, by decide +kernel, rfl, by decide +kernel, by decide +kernel⟩
theorem Bds.len {G : List (List Int)} {lo hi : Int} {B : List (Int × Int)} (h : Bds G lo hi B) : B.length ≤ 30 := by
  rw [← keys_length]
  exact nodup_rng h.nd (n := 30) fun x hx => by have := h.bd x hx; omega
section
variable {P : Program} {w : World} {K : PySem.W.Frag} {mg : Str → Option Value} {base : Heap}
abbrev FLessened (P : Program) (w : World) (K : PySem.W.Frag) (mg : Str → Option Value) (base : Heap) : Prop := Fn P w K mg base 2 "lessened" sLessened ["groups", "taken", "bounds"]
  (sp3 (fz (rL (rL rI))) (fz (rL rI)) (fz (rD rI)) (rL rI) (fun G T B => Grps G ∧ Tak G T ∧ Bds G 0 59 B) (fun G _ _ y => Tak G y ∧ NotOver G y))
theorem fn_lessened {f : Addr} {fd : FuncData} (T : Txt2 mg) (cT : FTurnsOf P w K mg base) (cW : FWayFrom P w K mg base) (cG : FGivenOn P w K mg base) (hF : Fun K "lessened" "lessened" sLessened f fd) (hm : mg "lessened" = some (.ref f)) (hb : Binds K fd ["groups", "taken", "bounds"] []) : FLessened P w K mg base := by
  refine fn_mk hF hm hb scLessened sp3_len fun cdv A outer s H vs Q E hr ⟨F, cs, v, G, v2, ts, v3, B, e, S, hv, hv2, hv3, ⟨hg, hT, hB⟩, k⟩ => ?_
  subst e
  have hBl := hB.len
  refine wss_one (ws_while (ι := List Int) (fun ts σ H => ∃ F' v2 b c d e, Le F F' ∧ σ = [some v, some v2, some v3, b, c, d, e] ∧ Sta F' cs H ∧ Is (fz (rL rI)) F' cs v2 ts ∧ Tak G ts) (fun ts => exc B ts) ts PassesOwn.never
    ⟨F, v2, _, _, _, _, Le.refl _, rfl, S, hv2, hT⟩ ?_)
  clear hv2 hT S
  rintro ts σ H1 ⟨F1, v2, b, c, d, e, l1, rfl, S1, hv2, hT⟩
  have l1' := l1.one
  have htl : ts.length ≤ 1000 := by rw [hT.1]; exact Nat.le_trans hg.le (by decide)
  refine (gt_of (p := true) ge_bl).run S1 fun H2 S2 => ite2 (fun _ => ?_) (fun h => absurd rfl h)
  refine wss_cons (ws_setW scLessened.nd (n := 3) rfl (.inr rfl) (we_call1 cT hr rfl (GE.un (ge_v (n := 1) rfl rfl hv2)) S2 htl fun d4 v4 F4 H4 l4 S4 h4 e4 => ?_))
  subst e4
  refine wss_cons (ws_setLc (r := rI) (t := rI) (own := [("person", 6)]) (fun p => decide (bv B p < cn ts p)) (fun p => p) rfl scLessened.nd (i := 4) rfl rfl (blkOk_by (by kernel_rfl))
    (gi_list (ge_sortedD rfl rfl T.sorted (GE.un (ge_v (n := 2) rfl rfl hv3)) (by omega))) (Sub.nil _) (fun _ _ _ _ _ => gb_i scLessened.nd (i := 6) rfl (.inl rfl)) (by decide) ?_ ?_ (line60 (by rw [srt_length, List.length_map]; omega)) S4 fun v5 F5 H5 l5 S5 h5 => ?_)
  · rintro F5 v5 p σ5 l5 hp rfl s0 H0 C cl fp
    have hpk : p ∈ keys B := srt_mem.mp hp
    have h4' : Is (fz (rD rI)) F4 cs v4 (turnsM ts) := ⟨h4.h⟩
    rw [← look_turns]
    exact gts_one (gt_c (gc_gt (ge_get2 (hu1 hr) (GE.un (ge_v (n := 3) rfl rfl h4')) (ge_vi (n := 6) rfl rfl) ge_int) (ge_dget (hu1 hr) (GE.un (ge_v (n := 2) rfl rfl hv3)) (ge_vi (n := 6) rfl rfl) (bv_mem hpk))))
  · rintro F5 v5 p σ5 l5 hp rfl _ s0 H0 C cl fp
    exact ge_vi (n := 6) rfl rfl
  generalize hov : ((srt (B.map (·.1))).filter fun p => decide (bv B p < cn ts p)).map (fun p => p) = over at h5
  have memO : ∀ p, p ∈ over ↔ p ∈ keys B ∧ bv B p < cn ts p := fun p => by
    rw [← hov, List.map_id', List.mem_filter, srt_mem, decide_eq_true_eq]; rfl
  refine wss_cons (ws_if (gt_c (gc_eqD (r := rL rI) (hu64 hr) (by decide) (GE.un (ge_v (n := 4) rfl rfl h5)) (GE.un ge_nil))) S5 (fun ho H6 S6 => ?_) (fun ho H6 S6 => wss_nil ?_))
  · have ho := of_decide_eq_true ho
    refine wss_one (ws_ret (r := fz (rL rI)) (ge_v (n := 1) rfl rfl hv2) S6 fun v7 F7 H7 l7 S7 h7 => k _ _ F7 H7 (l1'.tr (l4.tr (l5.tr l7))) S7 h7.fzn ⟨hT, less_end hT hB fun p hp hlt => ?_⟩)
    have := (memO p).mpr ⟨hp, hlt⟩
    rw [ho] at this
    exact nomatch this
  · have ho := of_decide_eq_false ho
    refine wss_cons (ws_setLc (r := rI) (t := rI) (own := [("person", 6)]) (fun p => decide (cn ts p < bv B p)) (fun p => p) rfl scLessened.nd (i := 5) rfl rfl (blkOk_by (by kernel_rfl))
      (gi_keys (GE.z (ge_v (n := 2) rfl rfl hv3))) (Sub.nil _) (fun _ _ _ _ _ => gb_i scLessened.nd (i := 6) rfl (.inl rfl)) (by decide) ?_ ?_ (line60 (by rw [List.length_map]; omega)) S6 fun v8 F8 H8 l8 S8 h8 => ?_)
    · rintro F7 v7 p σ7 l7 hp rfl s0 H0 C cl fp
      have h4' : Is (fz (rD rI)) F4 cs v4 (turnsM ts) := ⟨h4.h⟩
      rw [← look_turns]
      exact gts_one (gt_c (gc_lt (ge_get2 (hu1 hr) (GE.un (ge_v (n := 3) rfl rfl h4')) (ge_vi (n := 6) rfl rfl) ge_int) (ge_dget (hu1 hr) (GE.un (ge_v (n := 2) rfl rfl hv3)) (ge_vi (n := 6) rfl rfl) (bv_mem hp))))
    · rintro F7 v7 p σ7 l7 hp rfl _ s0 H0 C cl fp
      exact ge_vi (n := 6) rfl rfl
    generalize hro : ((B.map (·.1)).filter fun p => decide (cn ts p < bv B p)).map (fun p => p) = room at h8
    have memR : ∀ p, p ∈ room ↔ p ∈ keys B ∧ cn ts p < bv B p := fun p => by
      rw [← hro, List.map_id', List.mem_filter, decide_eq_true_eq]; rfl
    obtain ⟨s0, ov, eo⟩ : ∃ s0 ov, over = s0 :: ov := by
      cases over with
      | nil => exact absurd rfl ho
      | cons a b => exact ⟨a, b, rfl⟩
    obtain ⟨hsk, hso⟩ := (memO s0).mp (by rw [eo]; exact List.mem_cons_self)
    obtain ⟨w', ew, hwb, hTk, hex⟩ := less_way hg.ok hT hB hsk hso memR
    refine wss_one (ws_setW scLessened.nd (n := 1) rfl (.inl rfl) (we_callA cG hr (by decide) rfl (wa2 ((ge_v (n := 1) rfl rfl hv2).run S8 fun v9 F9 H9 l9 S9 h9 =>
      we_call4 cW hr rfl (ge_v (n := 0) rfl rfl hv) (ge_v (n := 1) rfl rfl hv2) (ge_ixL (GE.un (ge_v (n := 4) rfl rfl h5)) ge_int (by rw [eo]; exact atI_of (n := 0) rfl)) (ge_v (n := 5) rfl rfl h8) S9 ⟨hg, hT.1, hB.bd s0 hsk⟩ fun y v10 F10 H10 l10 S10 h10 e10 => ?_))))
    rw [e10, ew] at h10
    refine ⟨F10, cs, v9, ts, v10, w', rfl, S10, (h9.un).up, (show Is (fz rP) F10 cs v10 w' from ⟨h10.h.2⟩).un, hwb, fun y v11 F11 H11 l11 S11 h11 e11 => ?_⟩
    subst e11
    exact ⟨givenM ts w', hex, F11, v11, _, _, _, _, l1.trans (l4.le.trans (l5.le.trans (l8.le.trans (l9.le.trans (l10.le.trans l11.le))))), rfl, S11, ⟨h11.h⟩, hTk⟩
end
end K97

-- part K97n
namespace K97
open PySem PySem.Spec PyProof.Rows L2 DL
abbrev sRaised : Stmt := topS 26
theorem scRaised : FnScope ["groups", "taken", "bounds", "counts", "under", "rich", "ways", "person", "way"] ["groups", "taken", "bounds"] (defScope sRaised) := ⟨rfl, rfl, rfl, by decide +kernel, rfl, by decide +kernel, by decide +kernel⟩
section
variable {P : Program} {w : World} {K : PySem.W.Frag} {mg : Str → Option Value} {base : Heap}
abbrev FRaised (P : Program) (w : World) (K : PySem.W.Frag) (mg : Str → Option Value) (base : Heap) : Prop := Fn P w K mg base 2 "raised" sRaised ["groups", "taken", "bounds"]
  (sp3 (fz (rL (rL rI))) (fz (rL rI)) (fz (rD rI)) (rL rI) (fun G T B => Grps G ∧ Tak G T ∧ Bds G (-59) 0 B ∧ NotOver G T) (fun G _ _ y => FairT G y))
theorem fn_raised {f : Addr} {fd : FuncData} (T : Txt2 mg) (cT : FTurnsOf P w K mg base) (cW : FWayFrom P w K mg base) (cG : FGivenOn P w K mg base) (hF : Fun K "raised" "raised" sRaised f fd) (hm : mg "raised" = some (.ref f)) (hb : Binds K fd ["groups", "taken", "bounds"] []) : FRaised P w K mg base := by
  refine fn_mk hF hm hb scRaised sp3_len fun cdv A outer s H vs Q E hr ⟨F, cs, v, G, v2, ts, v3, B, e, S, hv, hv2, hv3, ⟨hg, hT, hB, hN⟩, k⟩ => ?_
  subst e
  have hBl := hB.len
  refine wss_one (ws_while (ι := List Int) (fun ts σ H => ∃ F' v2 b c d e e6 e7, Le F F' ∧ σ = [some v, some v2, some v3, b, c, d, e, e6, e7] ∧ Sta F' cs H ∧ Is (fz (rL rI)) F' cs v2 ts ∧ Tak G ts ∧ NotOver G ts) (fun ts => lck B ts) ts PassesOwn.never
    ⟨F, v2, _, _, _, _, _, _, Le.refl _, rfl, S, hv2, hT, hN⟩ ?_)
  clear hv2 hT S hN
  rintro ts σ H1 ⟨F1, v2, b, c, d, e, e6, e7, l1, rfl, S1, hv2, hT, hN⟩
  have l1' := l1.one
  have htl : ts.length ≤ 1000 := by rw [hT.1]; exact Nat.le_trans hg.le (by decide)
  refine (gt_of (p := true) ge_bl).run S1 fun H2 S2 => ite2 (fun _ => ?_) (fun h => absurd rfl h)
  refine wss_cons (ws_setW scRaised.nd (n := 3) rfl (.inr rfl) (we_call1 cT hr rfl (GE.un (ge_v (n := 1) rfl rfl hv2)) S2 htl fun d4 v4 F4 H4 l4 S4 h4 e4 => ?_))
  subst e4
  have h4' : Is (fz (rD rI)) F4 cs v4 (turnsM ts) := ⟨h4.h⟩
  refine wss_cons (ws_set (r := fz (rL rI)) (n := 4) scRaised.nd rfl (.inr rfl) (ge_lc (r := rI) (t := rI) (own := [("person", 7)]) (fun p => decide (cn ts p < bv B p)) (fun p => p) rfl scRaised.nd (blkOk_by (by kernel_rfl))
    (gi_list (ge_sortedD rfl rfl T.sorted (GE.un (ge_v (n := 2) rfl rfl hv3)) (by omega))) (Sub.nil _) (fun _ _ _ _ _ => gb_i scRaised.nd (i := 7) rfl (.inl rfl)) (by decide) ?_ ?_ (line60 (by rw [srt_length, List.length_map]; omega))) S4 fun v5 F5 H5 l5 S5 h5 => ?_)
  · rintro F5 v5 p σ5 l5 hp rfl s0 H0 C cl fp
    have hpk : p ∈ keys B := srt_mem.mp hp
    rw [← look_turns]
    exact gts_one (gt_c (gc_lt (ge_get2 (hu1 hr) (GE.un (ge_v (n := 3) rfl rfl h4')) (ge_vi (n := 7) rfl rfl) ge_int) (ge_dget (hu1 hr) (GE.un (ge_v (n := 2) rfl rfl hv3)) (ge_vi (n := 7) rfl rfl) (bv_mem hpk))))
  · rintro F5 v5 p σ5 l5 hp rfl _ s0 H0 C cl fp
    exact ge_vi (n := 7) rfl rfl
  generalize hov : ((srt (B.map (·.1))).filter fun p => decide (cn ts p < bv B p)).map (fun p => p) = under at h5
  have memO : ∀ p, p ∈ under ↔ p ∈ keys B ∧ cn ts p < bv B p := fun p => by
    rw [← hov, List.map_id', List.mem_filter, srt_mem, decide_eq_true_eq]; rfl
  refine wss_cons (ws_if (gt_c (gc_eqD (r := rL rI) (hu64 hr) (by decide) (GE.un (ge_v (n := 4) rfl rfl h5)) (GE.un ge_nil))) S5 (fun ho H6 S6 => ?_) (fun ho H6 S6 => wss_nil ?_))
  · have ho := of_decide_eq_true ho
    refine wss_one (ws_ret (r := fz (rL rI)) (ge_v (n := 1) rfl rfl hv2) S6 fun v7 F7 H7 l7 S7 h7 => k _ _ F7 H7 (l1'.tr (l4.tr (l5.tr l7))) S7 h7.fzn (raise_end hT hB hN fun p hp hlt => ?_))
    have := (memO p).mpr ⟨hp, hlt⟩
    rw [ho] at this
    exact nomatch this
  · have ho := of_decide_eq_false ho
    obtain ⟨u, ov, eo⟩ : ∃ s0 ov, under = s0 :: ov := by
      cases under with
      | nil => exact absurd rfl ho
      | cons a b => exact ⟨a, b, rfl⟩
    obtain ⟨huk, hul⟩ := (memO u).mp (by rw [eo]; exact List.mem_cons_self)
    refine wss_cons (ws_setLc (r := rI) (t := rI) (own := [("person", 7)]) (fun p => decide (bv B p < cn ts p)) (fun p => p) rfl scRaised.nd (i := 5) rfl rfl (blkOk_by (by kernel_rfl))
      (gi_list (ge_sortedD rfl rfl T.sorted (GE.un (ge_v (n := 2) rfl rfl hv3)) (by omega))) (Sub.nil _) (fun _ _ _ _ _ => gb_i scRaised.nd (i := 7) rfl (.inl rfl)) (by decide) ?_ ?_ (line60 (by rw [srt_length, List.length_map]; omega)) S6 fun v8 F8 H8 l8 S8 h8 => ?_)
    · rintro F7 v7 p σ7 l7 hp rfl s0 H0 C cl fp
      have hpk : p ∈ keys B := srt_mem.mp hp
      rw [← look_turns]
      exact gts_one (gt_c (gc_gt (ge_get2 (hu1 hr) (GE.un (ge_v (n := 3) rfl rfl h4')) (ge_vi (n := 7) rfl rfl) ge_int) (ge_dget (hu1 hr) (GE.un (ge_v (n := 2) rfl rfl hv3)) (ge_vi (n := 7) rfl rfl) (bv_mem hpk))))
    · rintro F7 v7 p σ7 l7 hp rfl _ s0 H0 C cl fp
      exact ge_vi (n := 7) rfl rfl
    have hrl : (((srt (B.map (·.1))).filter fun p => decide (bv B p < cn ts p)).map (fun p => p)).length ≤ 30 := by
      rw [List.length_map]
      refine Nat.le_trans (List.length_filter_le _ _) ?_
      rw [srt_length, List.length_map]; exact hBl
    generalize hro : ((srt (B.map (·.1))).filter fun p => decide (bv B p < cn ts p)).map (fun p => p) = rich at h8 hrl
    have memR : ∀ p, p ∈ rich ↔ p ∈ keys B ∧ bv B p < cn ts p := fun p => by
      rw [← hro, List.map_id', List.mem_filter, srt_mem, decide_eq_true_eq]; rfl
    have hcut : cut under none (some 1) = [u] := by rw [show (1 : Int) = ((1 : Nat) : Int) from rfl, cut_hi, eo]; rfl
    refine wss_cons (ws_setLc (r := rI) (t := rO rP) (own := [("person", 7)]) (fun _ => true) (fun p => wayM G ts p [u]) rfl scRaised.nd (i := 6) rfl rfl (blkOk_by (by kernel_rfl))
      (gi_list (ge_v (n := 5) rfl rfl h8)) (Sub.nil _) (fun _ _ _ _ _ => gb_i scRaised.nd (i := 7) rfl (.inl rfl)) (by decide) (fun F1 v x σ1 l hx hb s H0 C cl fp => gts_nil) ?_ (line60 (by omega)) S8 fun v9 F9 H9 l9 S9 h9 => ?_)
    · rintro F7 v7 p σ7 l7 hp rfl _ s0 H0 C cl fp
      exact ge_call4 cW hr rfl (ge_v (n := 0) rfl rfl hv) (ge_v (n := 1) rfl rfl hv2) (ge_vi (n := 7) rfl rfl) (ge_slHi (GE.un (ge_v (n := 4) rfl rfl h5)) ge_int) ⟨hg, hT.1, hB.bd p ((memR p).mp hp).1⟩ fun y hy => by rw [hy, hcut]
    rw [List.filter_eq_self.mpr fun _ _ => rfl] at h9
    obtain ⟨p0, hp0, hpn⟩ := raise_some hg.ok hT hB huk hul memR
    obtain ⟨w', wr, ew⟩ : ∃ w' wr, ((rich.map fun p => wayM G ts p [u]).filter fun o => o.isSome).map (fun o => o.getD []) = w' :: wr := by
      obtain ⟨w0, hw0⟩ := Option.ne_none_iff_exists'.mp hpn
      have : w0 ∈ ((rich.map fun p => wayM G ts p [u]).filter fun o => o.isSome).map (fun o => o.getD []) := List.mem_map.mpr ⟨some w0, List.mem_filter.mpr ⟨List.mem_map.mpr ⟨p0, hp0, hw0⟩, rfl⟩, rfl⟩
      cases h : ((rich.map fun p => wayM G ts p [u]).filter fun o => o.isSome).map (fun o => o.getD []) with
      | nil => rw [h] at this; exact nomatch this
      | cons a b => exact ⟨a, b, rfl⟩
    obtain ⟨p1, hp1, ew1⟩ : ∃ p1 ∈ rich, wayM G ts p1 [u] = some w' := by
      have : w' ∈ ((rich.map fun p => wayM G ts p [u]).filter fun o => o.isSome).map (fun o => o.getD []) := by rw [ew]; exact List.mem_cons_self
      obtain ⟨o, ho, e⟩ := List.mem_map.mp this
      obtain ⟨ho, hs⟩ := List.mem_filter.mp ho
      obtain ⟨p1, hp1, e1⟩ := List.mem_map.mp ho
      obtain ⟨w1, hw1⟩ := Option.isSome_iff_exists.mp hs
      refine ⟨p1, hp1, ?_⟩
      rw [e1, hw1, ← e, hw1]; rfl
    obtain ⟨hpk1, hpl1⟩ := (memR p1).mp hp1
    obtain ⟨hwb, hTk, hlk, hN'⟩ := raise_way hg.ok hT hB hN huk hul hpk1 hpl1 ew1
    refine wss_one (ws_setW scRaised.nd (n := 1) rfl (.inr rfl) (we_call2 cG hr rfl (GE.un (ge_v (n := 1) rfl rfl hv2)) (GE.un (ge_ixL (r := rP) (x := w') (GE.un (ge_lc (r := rO rP) (t := rP) (own := [("way", 8)]) (fun o => o.isSome) (fun o => o.getD []) rfl scRaised.nd (blkOk_by (by kernel_rfl))
      (gi_list (ge_v (n := 6) rfl rfl h9)) (Sub.nil _) (fun _ _ _ _ _ => gb_n (rO rP) scRaised.nd (i := 8) rfl (.inl rfl)) (by decide) ?_ ?_ (line60 (by rw [List.length_map]; omega)))) ge_int (by rw [ew]; exact atI_of (n := 0) rfl))) S9 hwb fun y v11 F11 H11 l11 S11 h11 e11 => ?_))
    · rintro F7 v7 o σ7 l7 ho ⟨h7, rfl⟩ s0 H0 C cl fp
      exact gts_one (gt_c (gc_notN (ge_v (n := 8) rfl rfl h7)))
    · rintro F7 v7 o σ7 l7 ho ⟨h7, rfl⟩ hs s0 H0 C cl fp
      obtain ⟨w7, rfl⟩ := Option.isSome_iff_exists.mp hs
      exact ge_v (n := 8) rfl rfl (show Is (fz rP) F7 [] v7 w7 from ⟨h7.h.2⟩)
    · subst e11
      exact ⟨givenM ts w', hlk, F11, v11, _, _, _, _, _, _, l1.trans (l4.le.trans (l5.le.trans (l8.le.trans (l9.le.trans l11.le)))), rfl, S11, ⟨h11.h⟩, hTk, hN'⟩
end
end K97

-- part K97o
namespace K97
open PySem PySem.Spec PyProof.Rows L2 DL
theorem fold_put_map {α β : Type} (gk : α → Int) (gv : α → β) : ∀ (xs : List α) (d : List (Int × β)), (xs.map gk).Nodup → (∀ x ∈ xs, gk x ∉ keys d) → xs.foldl (fun d x => put d (gk x) (gv x)) d = d ++ xs.map fun x => (gk x, gv x)
  | [], d, _, _ => by simp
  | x :: xs, d, nd, h => by
    rw [List.map_cons, List.nodup_cons] at nd
    have hx : ¬ (look d (gk x)).isSome = true := fun z => h x List.mem_cons_self (look_some.mp z)
    have e : put d (gk x) (gv x) = d ++ [(gk x, gv x)] := by unfold put; rw [if_neg hx]
    rw [List.foldl_cons, e, fold_put_map gk gv xs _ nd.2, List.append_assoc]
    · rfl
    · intro y hy hk
      unfold keys at hk
      rw [List.map_append] at hk
      rcases List.mem_append.mp hk with z | z
      · exact h y (List.mem_cons_of_mem _ hy) z
      · have : gk y = gk x := by simpa using z
        exact nd.1 (this ▸ List.mem_map.mpr ⟨y, hy, rfl⟩)
theorem step_keys (n : Int) : ∀ (g : List Int) (d : Shs) (p : Int), p ∈ keys (g.foldl (stepP n) d) ↔ p ∈ g ∨ p ∈ keys d
  | [], d, p => by simp
  | q :: g, d, p => by
    rw [List.foldl_cons, step_keys n g, List.mem_cons]
    unfold stepP
    rw [mem_keys_put]
    constructor
    · rintro (h | h | h)
      · exact .inl (.inr h)
      · exact .inl (.inl h)
      · exact .inr h
    · rintro ((h | h) | h)
      · exact .inr (.inl h)
      · exact .inl h
      · exact .inr (.inr h)
theorem shares_keys (G : List (List Int)) (p : Int) : p ∈ keys (sharesM G) ↔ ∃ g ∈ G, p ∈ g := by
  induction G using snoc_ind with
  | h0 => simp [sharesM, keys]
  | hs G g ih =>
    rw [sharesM_snoc]
    unfold stepG
    rw [step_keys, ih]
    constructor
    · rintro (h | ⟨g', h, h2⟩)
      · exact ⟨g, List.mem_append_right _ List.mem_cons_self, h⟩
      · exact ⟨g', List.mem_append_left _ h, h2⟩
    · rintro ⟨g', h, h2⟩
      rcases List.mem_append.mp h with z | z
      · exact .inr ⟨g', z, h2⟩
      · rw [List.mem_singleton.mp z] at h2; exact .inl h2
theorem share_of {G : List (List Int)} (hG : ∀ g ∈ G, Grp g) {e : Int × Int × Int} (h : e ∈ sharesM G) : Shr e.2 (Sv G e.1) := by
  have := shares_shr G hG e.1
  unfold gsh at this
  rw [look_of_mem (allShr G hG).2.1 (show (e.1, e.2) ∈ sharesM G from h)] at this
  exact this
def ceilB (s : Int × Int) : Int := -(-s.1 / s.2)
theorem ceil_ok {s : Int × Int} {S : Int} (h : Shr s S) : S + 0 ≤ 60 * ceilB s ∧ 60 * ceilB s ≤ S + 59 := by
  have h0 := h.pos
  have hv := h.val
  have h1 := Int.mul_ediv_add_emod (-s.1) s.2
  have h2 := Int.emod_nonneg (-s.1) (show s.2 ≠ 0 by omega)
  have h3 := Int.emod_lt_of_pos (-s.1) h0
  unfold ceilB
  generalize -s.1 / s.2 = q at *
  generalize -s.1 % s.2 = m at *
  have hs : s.1 = -(s.2 * q) - m := by omega
  have e : (S + 60 * q) * s.2 = -(60 * m) := by
    rw [Int.add_mul, ← hv, hs, Int.mul_assoc, Int.mul_comm q s.2]
    omega
  have hm : -(60 * s.2) < -(60 * m) := by omega
  constructor
  · have : S + 60 * q ≤ 0 := Int.not_lt.mp fun z => by
      have := Int.mul_pos z h0
      omega
    omega
  · have : -60 < S + 60 * q := Int.not_le.mp fun z => by
      have := Int.mul_le_mul_of_nonneg_right z (Int.le_of_lt h0)
      omega
    omega
theorem floor_ok {s : Int × Int} {S : Int} (h : Shr s S) : S + -59 ≤ 60 * (s.1 / s.2) ∧ 60 * (s.1 / s.2) ≤ S + 0 := by
  have h0 := h.pos
  have hv := h.val
  have h1 := Int.mul_ediv_add_emod s.1 s.2
  have h2 := Int.emod_nonneg s.1 (show s.2 ≠ 0 by omega)
  have h3 := Int.emod_lt_of_pos s.1 h0
  generalize s.1 / s.2 = q at *
  generalize s.1 % s.2 = m at *
  have hs : s.1 = s.2 * q + m := by omega
  have e : (S - 60 * q) * s.2 = 60 * m := by
    rw [Int.sub_mul, ← hv, hs, Int.mul_assoc, Int.mul_comm q s.2]
    omega
  constructor
  · have : S - 60 * q < 60 := Int.not_le.mp fun z => by
      have := Int.mul_le_mul_of_nonneg_right z (Int.le_of_lt h0)
      omega
    omega
  · have : 0 ≤ S - 60 * q := Int.not_lt.mp fun z => by
      have := Int.mul_neg_of_neg_of_pos z h0
      omega
    omega
def mapB (f : Int × Int → Int) (G : List (List Int)) : List (Int × Int) := (sharesM G).map fun e => (e.1, f e.2)
theorem mapB_keys (f : Int × Int → Int) (G : List (List Int)) : keys (mapB f G) = keys (sharesM G) := by
  unfold mapB keys
  rw [List.map_map]; rfl
theorem bds_map {f : Int × Int → Int} {G : List (List Int)} {lo hi : Int} (hG : ∀ g ∈ G, Grp g) (hf : ∀ s S, Shr s S → S + lo ≤ 60 * f s ∧ 60 * f s ≤ S + hi) : Bds G lo hi (mapB f G) := by
  have hA := allShr G hG
  refine ⟨by rw [mapB_keys]; exact hA.2.1, by rw [mapB_keys]; exact hA.2.2, fun p hp g hg hpg => ?_, fun p b hb => ?_⟩
  · rw [mapB_keys, shares_keys] at hp
    exact hp ⟨g, hg, hpg⟩
  · obtain ⟨e, he, ee⟩ := List.mem_map.mp (look_mem hb)
    cases ee
    exact hf _ _ (share_of hG he)
theorem tak_first {G : List (List Int)} (hG : ∀ g ∈ G, Grp g) : Tak G (G.map fun g => g.headD 0) := by
  refine ⟨List.length_map .., fun k p g hp hg => ?_⟩
  rw [List.getElem?_map, hg] at hp
  cases hp
  have := (hG g (List.mem_of_getElem? hg)).ne
  cases g with
  | nil => exact absurd rfl this
  | cons a b => exact List.mem_cons_self
abbrev sFairTurns : Stmt := topS 27
theorem scFairTurns : FnScope ["groups", "bounds", "high", "low", "person", "top", "bottom", "group"] ["groups"] (defScope sFairTurns) := ⟨rfl, rfl, rfl, by decide +kernel, rfl, by decide +kernel, by decide +kernel⟩
section
variable {P : Program} {w : World} {K : PySem.W.Frag} {mg : Str → Option Value} {base : Heap}
abbrev FFairTurns (P : Program) (w : World) (K : PySem.W.Frag) (mg : Str → Option Value) (base : Heap) : Prop := Fn P w K mg base 6 "fair_turns" sFairTurns ["groups"] (sp1 (fz (rL (rL rI))) (rL rI) Grps (fun G y => FairT G y))
theorem fn_fair_turns {f : Addr} {fd : FuncData} (T : Txt2 mg) (cC : FCheckGroups P w K mg base) (cS : FSharesOf P w K mg base) (cL : FLessened P w K mg base) (cR : FRaised P w K mg base) (hF : Fun K "fair_turns" "fair_turns" sFairTurns f fd) (hm : mg "fair_turns" = some (.ref f)) (hb : Binds K fd ["groups"] []) : FFairTurns P w K mg base := by
  refine fn_mk hF hm hb scFairTurns sp1_len fun cdv A outer s H vs Q E hr ⟨F, cs, v, G, e, S, hv, hg, k⟩ => ?_
  subst e
  have hA := allShr G hg.ok
  have hAl := hA.len
  have hGl := hg.le
  refine wss_cons (ws_expr (we_call1 cC hr rfl (ge_v (n := 0) rfl rfl hv) S hg fun _ _ F1 H1 l1 S1 _ _ => ?_))
  refine wss_cons (ws_set (r := fz (rD (rT2 rI rI))) (n := 1) scFairTurns.nd rfl (.inl rfl) (ge_call1 cS hr rfl (GE.un (ge_v (n := 0) rfl rfl hv)) hg fun _ h => h) S1 fun v2 F2 H2 l2 S2 h2 => ?_)
  refine wss_cons (ws_setDc (r := rT2 rI (rT2 rI rI)) (t := rI) (own := [("person", 4), ("top", 5), ("bottom", 6)]) (fun e => e.1) (fun e => ceilB e.2) rfl scFairTurns.nd (i := 2) rfl rfl (blkOk_by (by kernel_rfl))
    (gi_items (GE.z (ge_v (n := 1) rfl rfl h2))) (Sub.nil _) (fun _ _ _ _ _ => gb_t2 rfl (gb_i scFairTurns.nd (i := 4) rfl (.inl rfl)) (gb_t2 rfl (gb_i scFairTurns.nd (i := 5) rfl (.inl rfl)) (gb_i scFairTurns.nd (i := 6) rfl (.inl rfl)))) (by decide) ?_ ?_ (line60 (by omega)) S2 fun v3 F3 H3 l3 S3 h3 => ?_)
  · rintro F7 v7 ⟨p, a, b⟩ σ7 l7 hx ⟨u1, u2, σ2, rfl, ⟨u3, u4, σ3, rfl, rfl⟩⟩ s0 H0 C cl fp
    exact ge_vi (n := 4) rfl rfl
  · rintro F7 v7 ⟨p, a, b⟩ σ7 l7 hx ⟨u1, u2, σ2, rfl, ⟨u3, u4, σ3, rfl, rfl⟩⟩ s0 H0 C cl fp
    have hs := share_of hg.ok hx
    exact ge_neg (ge_fdiv (ge_neg (ge_vi (n := 5) rfl rfl)) (ge_vi (n := 6) rfl rfl) ⟨hs.pos, by have := hs.le; omega⟩)
  rw [fold_put_map _ _ _ _ hA.2.1 (fun _ _ z => by simp [keys] at z), List.nil_append] at h3
  refine wss_cons (ws_setDc (r := rT2 rI (rT2 rI rI)) (t := rI) (own := [("person", 4), ("top", 5), ("bottom", 6)]) (fun e => e.1) (fun e => e.2.1 / e.2.2) rfl scFairTurns.nd (i := 3) rfl rfl (blkOk_by (by kernel_rfl))
    (gi_items (GE.z (ge_v (n := 1) rfl rfl h2))) (Sub.nil _) (fun _ _ _ _ _ => gb_t2 rfl (gb_i scFairTurns.nd (i := 4) rfl (.inl rfl)) (gb_t2 rfl (gb_i scFairTurns.nd (i := 5) rfl (.inl rfl)) (gb_i scFairTurns.nd (i := 6) rfl (.inl rfl)))) (by decide) ?_ ?_ (line60 (by omega)) S3 fun v4 F4 H4 l4 S4 h4 => ?_)
  · rintro F7 v7 ⟨p, a, b⟩ σ7 l7 hx ⟨u1, u2, σ2, rfl, ⟨u3, u4, σ3, rfl, rfl⟩⟩ s0 H0 C cl fp
    exact ge_vi (n := 4) rfl rfl
  · rintro F7 v7 ⟨p, a, b⟩ σ7 l7 hx ⟨u1, u2, σ2, rfl, ⟨u3, u4, σ3, rfl, rfl⟩⟩ s0 H0 C cl fp
    have hs := share_of hg.ok hx
    exact ge_fdiv (ge_vi (n := 5) rfl rfl) (ge_vi (n := 6) rfl rfl) ⟨hs.pos, by have := hs.le; omega⟩
  rw [fold_put_map _ _ _ _ hA.2.1 (fun _ _ z => by simp [keys] at z), List.nil_append] at h4
  have hb1 : Bds G 0 59 (mapB ceilB G) := bds_map hg.ok fun s S h => ceil_ok h
  have hb2 : Bds G (-59) 0 (mapB (fun s => s.1 / s.2) G) := bds_map hg.ok fun s S h => floor_ok h
  have hT := tak_first hg.ok
  refine wss_one (ws_retW (we_callA cR hr (by decide) rfl (wa3 ((ge_v (n := 0) rfl rfl hv).run S4 fun v5 F5 H5 l5 S5 h5 =>
    we_call3 cL hr rfl (ge_v (n := 0) rfl rfl hv) (ge_lc0 (r := rL rI) (t := rI) (own := [("group", 7)]) (fun g => g.headD 0) rfl scFairTurns.nd (blkOk_by (by kernel_rfl)) (gi_list (ge_v (n := 0) rfl rfl hv)) (Sub.nil _) (fun _ _ _ _ _ => gb_n (rL rI) scFairTurns.nd (i := 7) rfl (.inl rfl)) (by decide) ?_ (line60 (by omega))) (ge_v (n := 2) rfl rfl h3) S5 ⟨hg, hT, hb1⟩ fun y v6 F6 H6 l6 S6 h6 ⟨hT6, hN6⟩ =>
      (ge_v (n := 3) rfl rfl h4).run S6 fun v8 F8 H8 l8 S8 h8 => ⟨F8, cs, v5, G, v6, y, v8, _, rfl, S8, h5.up, ⟨(h6.up (F' := F8) (cs' := [])).h⟩, h8, ⟨hg, hT6, hb2, hN6⟩, fun z v9 F9 H9 l9 S9 h9 hf => k z v9 F9 H9 (l1.tr (l2.tr (l3.tr (l4.tr (l5.tr (l6.tr (l8.tr l9))))))) S9 h9 hf⟩))))
  rintro F7 v7 g σ7 l7 hx ⟨h7, rfl⟩ s0 H0 C cl fp
  have hgg := hg.ok g hx
  cases g with
  | nil => exact absurd rfl hgg.ne
  | cons a r => exact ge_ixL (GE.un (ge_v (n := 7) rfl rfl (show Is (fz (rL rI)) F7 [] v7 (a :: r) from ⟨h7.h⟩))) ge_int (atI_of (n := 0) rfl)
end
end K97

-- part K97p
namespace K97
open PySem PySem.Spec PyProof.Rows L2 DL
def Fair2 (G : List (List Int)) (T : List Int) : Prop := ∀ p, 60 * cn T p < Sv G p + 60 ∧ Sv G p < 60 * cn T p + 60
theorem FairT.two {G : List (List Int)} {T : List Int} (h : FairT G T) : Fair2 G T := fun p => ⟨h.le p, h.ge p⟩
/-- one person's turn is as the share lets -/
def near (T : List Int) (e : Int × Int × Int) : Prop := cn T e.1 * e.2.2 - e.2.1 < e.2.2 ∧ -(cn T e.1 * e.2.2 - e.2.1) < e.2.2
theorem near_iff {G : List (List Int)} {T : List Int} {e : Int × Int × Int} (h : Shr e.2 (Sv G e.1)) : near T e ↔ 60 * cn T e.1 < Sv G e.1 + 60 ∧ Sv G e.1 < 60 * cn T e.1 + 60 := by
  have h0 := h.pos
  have hv := h.val
  unfold near
  generalize cn T e.1 = c at *
  generalize Sv G e.1 = S at *
  obtain ⟨p, t, b⟩ := e
  dsimp only at *
  have e1 : 60 * (c * b - t) = (60 * c - S) * b := by rw [Int.sub_mul, ← hv, Int.mul_sub, Int.mul_assoc]; omega
  generalize hd : c * b - t = d at *
  constructor
  · rintro ⟨h1, h2⟩
    constructor
    · have : 60 * c - S < 60 := Int.not_le.mp fun z => by
        have := Int.mul_le_mul_of_nonneg_right z (Int.le_of_lt h0)
        omega
      omega
    · have : -60 < 60 * c - S := Int.not_le.mp fun z => by
        have := Int.mul_le_mul_of_nonneg_right z (Int.le_of_lt h0)
        omega
      omega
  · rintro ⟨h1, h2⟩
    constructor
    · have : 0 < (60 - (60 * c - S)) * b := Int.mul_pos (by omega) h0
      rw [Int.sub_mul, ← e1] at this
      omega
    · have : 0 < (60 + (60 * c - S)) * b := Int.mul_pos (by omega) h0
      rw [Int.add_mul, ← e1] at this
      omega
theorem near_all {G : List (List Int)} {T : List Int} (hG : ∀ g ∈ G, Grp g) (hT : Tak G T) : (∀ e ∈ sharesM G, near T e) ↔ Fair2 G T := by
  constructor
  · intro h p
    by_cases hp : p ∈ keys (sharesM G)
    · obtain ⟨e, he, rfl⟩ := List.mem_map.mp hp
      exact (near_iff (share_of hG he)).mp (h e he)
    · have hB : Bds G 0 59 (mapB ceilB G) := bds_map hG fun s S h => ceil_ok h
      rw [← mapB_keys ceilB] at hp
      rw [hB.cn0 hT hp, Sv_zero (hB.out p hp)]; decide
  · exact fun h e he => (near_iff (share_of hG he)).mpr (h e.1)
abbrev sIsFair : Stmt := topS 28
theorem scIsFair : FnScope ["groups", "value", "counts", "person", "top", "bottom", "group"] ["groups", "value"] (defScope sIsFair) := ⟨rfl, rfl, rfl, by decide +kernel, rfl, by decide +kernel, by decide +kernel⟩
section
variable {P : Program} {w : World} {K : PySem.W.Frag} {mg : Str → Option Value} {base : Heap}
abbrev FIsFair (P : Program) (w : World) (K : PySem.W.Frag) (mg : Str → Option Value) (base : Heap) : Prop := Fn P w K mg base 6 "is_fair" sIsFair ["groups", "value"] (sp2 (fz (rL (rL rI))) (fz (rL rI)) rB (fun G T => Grps G ∧ Tak G T) (fun G T y => y = true ↔ Fair2 G T))
theorem fn_is_fair {f : Addr} {fd : FuncData} (T : Txt2 mg) (cC : FCheckGroups P w K mg base) (cL : FListed rI P w K mg base) (cF : FFromTo P w K mg base) (cT : FTurnsOf P w K mg base) (cS : FSharesOf P w K mg base) (hF : Fun K "is_fair" "is_fair" sIsFair f fd) (hm : mg "is_fair" = some (.ref f)) (hb : Binds K fd ["groups", "value"] []) : FIsFair P w K mg base := by
  refine fn_mk hF hm hb scIsFair sp2_len fun cdv A outer s H vs Q E hr ⟨F, cs, v, G, v2, ts, e, S, hv, hv2, ⟨hg, hT⟩, k⟩ => ?_
  subst e
  have hA := allShr G hg.ok
  have hAl := hA.len
  have hGl := hg.le
  have htl : ts.length ≤ 60 := by rw [hT.1]; exact hGl
  refine wss_cons (ws_expr (we_call1 cC hr rfl (ge_v (n := 0) rfl rfl hv) S hg fun _ _ F1 H1 l1 S1 _ _ => ?_))
  refine wss_cons (ws_ifF (GW.to (gw_or (p := false) (q := false) (gt_not (p := true) (gt_of (ge_call1u cL hr rfl (GE.asQ (GE.un (ge_v (n := 1) rfl rfl hv2))) True.intro fun _ h => h))) fun _ =>
    gw_or1 (gt_is (by rw [hT.1]; simp) (gt_c (gc_ne (ge_lenL rfl T.len (GE.un (ge_v (n := 1) rfl rfl hv2))) (ge_lenL rfl T.len (GE.un (ge_v (n := 0) rfl rfl hv)))))))) S1 fun H2 S2 => wss_nil ?_)
  refine wss_cons (ws_ifF (gt_not (p := true) (gt_of (ge_is (all_true (ts.zip G)) (ge_all rfl rfl T.all (GE.un (ge_lc0 (r := rT2 rI (rL rI)) (t := rB) (own := [("person", 3), ("group", 6)]) (fun _ => true) rfl scIsFair.nd (blkOk_by (by kernel_rfl))
    (gi_zip rfl T.zip (ge_v (n := 1) rfl rfl hv2) (ge_v (n := 0) rfl rfl hv)) (Sub.nil _) (fun _ _ _ _ _ => gb_t2 rfl (gb_i scIsFair.nd (i := 3) rfl (.inl rfl)) (gb_n (rL rI) scIsFair.nd (i := 6) rfl (.inl rfl))) (by decide) ?_ (line60 (by rw [List.length_zip]; omega)))))))) S2 fun H3 S3 => wss_nil ?_)
  · rintro F7 v7 ⟨p, g⟩ σ7 l7 hx ⟨u1, u2, σ2, rfl, ⟨hu, rfl⟩⟩ s0 H0 C cl fp
    obtain ⟨k0, hk0⟩ := List.mem_iff_getElem?.mp hx
    obtain ⟨hp0, hg0⟩ := List.getElem?_zip_eq_some.mp hk0
    have hpg := hT.2 k0 p g hp0 hg0
    have hbd := (hg.ok g (List.mem_of_getElem? hg0)).bd p hpg
    exact ge_is (by simp [hpg]) (ge_and (p := true) (ge_call3u cF hr rfl (ge_vi (n := 3) rfl rfl) ge_int (ge_sub (ge_gi rfl T.mp) ge_int) True.intro fun _ h => by rw [h, decide_eq_true hbd.1, decide_eq_true (by omega)]; rfl) fun _ => ge_and1 (ge_c (gc_inL (ge_vi (n := 3) rfl rfl) (GE.asQ (ge_v (n := 6) rfl rfl hu)))))
  refine wss_cons (ws_setW scIsFair.nd (n := 2) rfl (.inl rfl) (we_call1 cT hr rfl (GE.un (ge_listL rfl T.list (GE.un (ge_v (n := 1) rfl rfl hv2)))) S3 (by omega) fun d4 v4 F4 H4 l4 S4 h4 e4 => ?_))
  subst e4
  have h4' : Is (fz (rD rI)) F4 cs v4 (turnsM ts) := ⟨h4.h⟩
  refine wss_cons (ws_for (own := []) (R := cs) (fun pre F' own' σ' => own' = [] ∧ Le F4 F' ∧ (∀ e ∈ pre, near ts e) ∧ ∃ b c d, σ' = [some v, some v2, some v4, b, c, d, none]) PassesOwn.never rfl
    (gi_items (GE.z (ge_call1 cS hr rfl (GE.un (ge_v (n := 0) rfl rfl hv)) hg fun _ h => h))) S4 (gb_t2 rfl (gb_i scIsFair.nd (i := 3) rfl (.inl rfl)) (gb_t2 rfl (gb_i scIsFair.nd (i := 4) rfl (.inl rfl)) (gb_i scIsFair.nd (i := 5) rfl (.inl rfl)))) rfl (fun pre F' own' σ' R' _ hR => Sub.nil _)
    (fun F5 l5 => ⟨rfl, l5.le, (fun _ z => by cases z), _, _, _, rfl⟩) ?_ ?_)
  · rintro pre ⟨p, a, b⟩ post F5 F6 own' σ' H7 v7 σ1 R' eG l5 l6 hsR hR S7 ⟨rfl, l5', hpre, x1, x2, x3, rfl⟩ ⟨u1, u2, σ2, rfl, ⟨u3, u4, σ3, rfl, rfl⟩⟩
    have hem : (p, a, b) ∈ sharesM G := by rw [eG]; exact List.mem_append_right _ List.mem_cons_self
    have hs := share_of hg.ok hem
    have hb0 := hs.pos
    have hb1 := hs.le
    dsimp only at hb0 hb1
    have l56 := l5'.one
    refine wss_one (ws_if (gt_c (gc_ge (ge_abs rfl T.abs (ge_sub (ge_mul (ge_get2 (r := rI) (hu1 hr) (GE.un (ge_v (n := 2) rfl rfl h4')) (ge_vi (n := 3) rfl rfl) ge_int) (ge_vi (n := 5) rfl rfl) (.inr ⟨by show -(2 ^ 64) < b; omega, by show b < 2 ^ 64; omega⟩)) (ge_vi (n := 4) rfl rfl))) (ge_vi (n := 5) rfl rfl))) S7 (fun hc H8 S8 => ?_) (fun hc H8 S8 => ?_))
    · have hc := of_decide_eq_true hc
      rw [look_turns] at hc
      dsimp only at hc
      refine wss_one (ws_retB ge_bl S8 fun H9 S9 => k false _ F6 H9 (l1.tr (l4.tr (l5.tr l6))) (S9.sub hR) ⟨rfl⟩ ⟨(fun z => by cases z), fun z => ?_⟩)
      have := (near_all hg.ok hT).mpr z _ hem
      unfold near at this
      dsimp only at this
      split at hc <;> omega
    · have hc := of_decide_eq_false hc
      rw [look_turns] at hc
      dsimp only at hc
      refine wss_nil ⟨F6, [], Le.refl _, S8, rfl, l5'.trans l6.le, fun e he => ?_, _, _, _, rfl⟩
      rcases List.mem_append.mp he with z | z
      · exact hpre e z
      · rw [List.mem_singleton.mp z]
        unfold near
        dsimp only
        split at hc <;> omega
  · rintro F5 own' σ' H7 R' l5 hsR hR S7 ⟨rfl, l5', hpre, x1, x2, x3, rfl⟩
    exact wss_one (ws_retB ge_bl S7 fun H9 S9 => k true _ F5 H9 (l1.tr (l4.tr l5)) (S9.sub hR) ⟨rfl⟩ ⟨fun _ => (near_all hg.ok hT).mp hpre, fun _ => rfl⟩)
end
end K97

-- part DLk
/-! DL, eleventh part: instances, methods. -/
namespace DL
open PySem PySem.Spec PyProof.Rows L2
/-- a method of the class at C -/
structure Mt (P : Program) (w : World) (K : PySem.W.Frag) (mg : Str → Option Value) (base : Heap) (C : Addr) (k : Nat) (m q : Str) (st : Stmt) (ps : List Str) (sp : Sp) : Prop where
  ex : ∃ (f : Addr) (fd : FuncData), FnOk P w K mg base CX0 k f fd ps sp ∧ Meth K C m f ∧ Fun K m q st f fd ∧ Binds K fd ps []
theorem mt_mk {P : Program} {w : World} {K : PySem.W.Frag} {mg : Str → Option Value} {base : Heap} {C : Addr} {k : Nat} {m q : Str} {st : Stmt} {N ps : List Str} {sp : Sp} {f : Addr} {fd : FuncData} (hF : Fun K m q st f fd) (hm : Meth K C m f) (hb : Binds K fd ps []) (S : FnScope N ps (defScope st))
    (len : ∀ vs H Q E, sp vs H Q E → vs.length = ps.length)
    (body : ∀ (cdv : Value) (A : Around) (outer : List Env) (s : Shared) (H : Hp) (vs : List V) (Q : VK) (E : XK), Room k (A.deeper (envOfC q (defScope st) s.heap.objs.size f cdv)) → sp vs H Q E →
      WSs (cxOf CX0 P w K mg base N q (defScope st) f cdv A outer s H E).nox (defBody st) { nx := fun _ H' => Q .non H', rt := Q } (start N vs) H) : Mt P w K mg base C (k + 1) m q st ps sp :=
  ⟨f, fd, hF.ok S len fun cdv A outer s H vs Q E hr h => ⟨_, pssW, body cdv A outer s H vs Q E hr h⟩, hm, hF, hb⟩
section
variable {X : Cx} {σ : Sl} {F F0 : Hp} {cs cs0 : Cs} {H : Hp} {e a b c d o : Expr} {pos apos : Pos} {α β γ δ : Type} {r : Rep α} {t : Rep β} {u : Rep γ} {x : α} {y : β} {D : Ends} {Q : VK} {C : Addr} {k l : Nat} {m q f : Str} {st : Stmt} {ps : List Str} {sp : Sp}
/-- o.m(e, ..) by what is known at each point -/
theorem we_methW {pl : Sem Bool} {es : List Expr} (M : Mt X.prog X.w X.K X.mg X.base C k m q st ps sp) (c : Cls X.K C) (hr : Room l X.A) (hk : k ≤ l)
    (h : WE X o σ H fun v H1 => ∃ w dx fs, v = .ref w ∧ H1 w = some (.ins C dx fs) ∧ fs.lookup m = none ∧ WA X (e :: es) σ H1 fun vs H2 => sp (v :: vs) H2 Q E0)
    (hst : starEach (e :: es) X.env = (false, eval e X.env) :: starEach es X.env := by rfl) (hpl : (backTo pos (starEach es X.env)).any (·.1) = false := by rfl)
    (ht : eval (.Call (.Attribute o m apos) (e :: es) [] pos) X.env = (do
      let ov ← eval o X.env
      standAt apos.atName
      let (f, first) ← holding [ov] (getMethod ov m pl)
      callWith pos f first (backTo pos (starEach (e :: es) X.env)) (backToKw pos (keywordEach [] X.env))) := by rfl) : WE X (.Call (.Attribute o m apos) (e :: es) [] pos) σ H Q := by
  obtain ⟨f, fd, G, hm, _, b⟩ := M.ex
  exact weB (pe_meth peW c hm G (hr.mono hk) b .nil pass0 paW hst hpl ht) (h.mono fun v H1 ⟨w, dx, fs, ev, ew, el, q⟩ => ⟨w, dx, fs, ev, ew, el, q.mono fun vs H2 q2 => by rw [List.append_nil]; exact q2⟩)
theorem we_methW0 {pl : Sem Bool} (M : Mt X.prog X.w X.K X.mg X.base C k m q st ps sp) (c : Cls X.K C) (hr : Room l X.A) (hk : k ≤ l)
    (h : WE X o σ H fun v H1 => ∃ w dx fs, v = .ref w ∧ H1 w = some (.ins C dx fs) ∧ fs.lookup m = none ∧ sp [v] H1 Q E0)
    (ht : eval (.Call (.Attribute o m apos) [] [] pos) X.env = (do
      let ov ← eval o X.env
      standAt apos.atName
      let (f, first) ← holding [ov] (getMethod ov m pl)
      callWith pos f first (backTo pos (starEach [] X.env)) (backToKw pos (keywordEach [] X.env))) := by rfl) : WE X (.Call (.Attribute o m apos) [] [] pos) σ H Q := by
  obtain ⟨f, fd, G, hm, _, b⟩ := M.ex
  exact weB (pe_meth0 peW c hm G (hr.mono hk) b .nil pass0 ht) (h.mono fun v H1 ⟨w, dx, fs, ev, ew, el, q⟩ => ⟨w, dx, fs, ev, ew, el, q⟩)
/-- o.m(k = e, ..): keywords alone -/
theorem we_methK {pl : Sem Bool} {kws : List Keyword} {tk : TA} (ks : List Str) (g : List Value → List Value) (gV : List V → List V) (M : Mt X.prog X.w X.K X.mg X.base C k m q st ps sp) (c : Cls X.K C) (hr : Room l X.A) (hk : k ≤ l) (hkw : PK X kws tk)
    (hb : ∀ (kV doc pm : Value) (an : Option Addr) (cdv ct : Value) (sv : Value) (ws : List Value), (g ws).length + 1 = ps.length → bindArgs (PySem.W.fnOf m q (defArgs st) (defBody st) (defScope st) .none kV doc pm an cdv ct) ⟨[sv], ks.zip ws⟩ = pure (ps.zip (sv :: g ws)))
    (hrel : ∀ {zs : List V} {ws : List Value}, Vals zs ws → Vals (gV zs) (g ws))
    (h : WE X o σ H fun v H1 => ∃ w dx fs, v = .ref w ∧ H1 w = some (.ins C dx fs) ∧ fs.lookup m = none ∧ tk σ H1 fun zs H2 => sp (v :: gV zs) H2 Q E0)
    (hall : (backToKw pos (keywordEach kws X.env)).all (·.1.isSome) = true := by rfl) (hks : (backToKw pos (keywordEach kws X.env)).filterMap (·.1) = ks := by rfl)
    (hpl : ((backTo pos (starEach [] X.env)).any (·.1) || (backToKw pos (keywordEach kws X.env)).any (·.1.isNone)) = false := by rfl)
    (ht : eval (.Call (.Attribute o m apos) [] kws pos) X.env = (do
      let ov ← eval o X.env
      standAt apos.atName
      let (f, first) ← holding [ov] (getMethod ov m pl)
      callWith pos f first (backTo pos (starEach [] X.env)) (backToKw pos (keywordEach kws X.env))) := by rfl) : WE X (.Call (.Attribute o m apos) [] kws pos) σ H Q := by
  obtain ⟨f, fd, G, hm, GF, b⟩ := M.ex
  refine fun pins s I => ?_
  refine PySem.W.methodCall_KW (pl := pl) (thn (h pins s I) fun u s1 ⟨v, H1, I1, rx, w, dx, fs, ev, ew, el, q2⟩ => ?_) ht
  subst ev
  obtain rfl : u = Value.ref w := rx
  refine getmeth_ok I1 ew c hm el ?_
  refine PySem.W.callWith_KW0 (first := [.ref w]) (h₀ := X.base) I.ok.mod.kin hm.kp hall ?_ hpl
  refine thn (hkw.run pos pins s1 σ H1 _ I1 q2) fun ws s2 ⟨zs, H2, I2, rz, q3⟩ => ⟨I2.kIn, ?_⟩
  rw [hks]
  obtain ⟨oc, od, kV, doc, pm, an, cdv, ct, osl, efd, lk, hcd⟩ := GF.ex
  have hl : (g ws).length + 1 = ps.length := by
    have := G.len _ _ _ _ q3
    rw [List.length_cons, (hrel rz).length] at this
    exact this
  show wpAny _ _ (call (.ref f) [.ref w] (ks.zip ws)) _ _ _
  refine wpAny_call (codeAny_mono (G.run X.A X.stack s2 H2 ⟨[.ref w], ks.zip ws⟩ (.ref w :: g ws) (.ref w :: gV zs) Q E0 (hr.mono hk) I2.env0 (.of_eq (by rw [efd]; exact hb kV doc pm an cdv ct (.ref w) ws hl)) (.cons rfl (hrel rz)) q3) fun r s' hq => ?_)
  cases r with
  | error e => exact False.elim hq
  | ok fl =>
    cases fl with
    | ret u => exact I2.after hq
    | next => exact False.elim hq
    | brk => exact False.elim hq
    | cont => exact False.elim hq
/-- an instance: v its address, fields fs -/
structure Ins (C : Addr) (F : Hp) (w : Addr) (fs : List (Str × V)) : Prop where
  h : ∃ dx, F w = some (.ins C dx fs)
theorem Ins.up {w : Addr} {fs : List (Str × V)} {F F' : Hp} (i : Ins C F w fs) (l : Le F F') : Ins C F' w fs := ⟨i.h.choose, l.h _ _ i.h.choose_spec⟩
theorem Ins.at {w : Addr} {fs : List (Str × V)} (i : Ins C F w fs) (S : Sta F cs H) : ∃ dx, H w = some (.ins C dx fs) := ⟨i.h.choose, S.at' i.h.choose_spec fun z => z⟩
/-- an address -/
def rA : Rep Addr := fun _ _ v w => v = .ref w
instance : Stable rA := ⟨fun _ _ h => h⟩
theorem ge_fld {w : Addr} {fs : List (Str × V)} {v : V} (c : Cls X.K C) (n : NoAttr X.K C f) (ho : GE X σ F cs o rA w) (i : Ins C F0 w fs) [l0 : Le F0 F] (hf : fs.lookup f = some v) (hv : ∀ F2, Le F F2 → r F2 cs v x) [s : Stable r] (hb : attributeBase o f X.env (eval o X.env) = eval o X.env := by rfl) : GE X σ F cs (.Attribute o f pos) r x := fun F1 cs1 H Q l1 u1 S q =>
  weB (pe_fld peW hb) (ho F1 cs1 H _ l1 u1 S fun v2 F2 H2 l2 S2 e2 => by
    obtain ⟨dx, hw⟩ := (i.up (l0.trans (l1.trans l2))).at S2
    exact ⟨w, C, dx, fs, v, e2, hw, c, n, hf, q v F2 H2 l2 S2 (s.up (Le.refl _) u1 (hv F2 (l1.trans l2)))⟩)
theorem ge_va {n : Nat} {z : Str} {w : Addr} (hN : X.N[n]? = some z) (hσ : σ[n]? = some (some (.ref w))) (hv : Vis X.env.scope z := by first | exact Or.inl rfl | exact Or.inr (Or.inl rfl) | exact Or.inr (Or.inr rfl))
    (hd : (z == ("__debug__" : Str)) = false := by decide) (hcd : (z == ("__classdict__" : Str)) = false := by decide) : GE X σ F cs (.Name z pos) rA w := fun F1 cs1 H Q l1 u1 S q =>
  weB (pe_var hN hv hd hcd) ⟨.ref w, hσ, q _ F1 H (Le.refl _) S rfl⟩
/-- o.m(e): o an instance, the promise by data -/
theorem ge_meth1 {w : Addr} {fs : List (Str × V)} {z : γ} {pre : α → β → Prop} {post : α → β → γ → Prop} {pl : Sem Bool} [sr : Stable r] [Stable u] (M : Mt X.prog X.w X.K X.mg X.base C k m q st ps (sp2 r t u pre post)) (c : Cls X.K C) (hr : Room l X.A) (ho : GE X σ F cs o rA w) (i : Ins C F0 w fs) [l0 : Le F0 F] (hf : fs.lookup m = none)
    (hx : ∀ F2, Le F F2 → r F2 cs (.ref w) x) (ha : GE X σ F cs a t y) (hp : pre x y) (hy : ∀ z', post x y z' → z' = z) (hk : k ≤ l := by decide)
    (hst : starEach [a] X.env = (false, eval a X.env) :: starEach [] X.env := by rfl) (hpl : (backTo pos (starEach [] X.env)).any (·.1) = false := by rfl)
    (ht : eval (.Call (.Attribute o m apos) [a] [] pos) X.env = (do
      let ov ← eval o X.env
      standAt apos.atName
      let (f, first) ← holding [ov] (getMethod ov m pl)
      callWith pos f first (backTo pos (starEach [a] X.env)) (backToKw pos (keywordEach [] X.env))) := by rfl) : GE X σ F cs (.Call (.Attribute o m apos) [a] [] pos) (fz u) z := fun F1 cs1 H Q l1 u1 S q =>
  we_methW M c hr hk (ho F1 cs1 H _ l1 u1 S fun v F2 H2 l2 S2 e2 => by
    obtain ⟨dx, hw⟩ := (i.up (l0.trans (l1.trans l2))).at S2
    refine ⟨w, dx, fs, e2, hw, hf, wa1 (ha F2 cs1 H2 _ (l1.trans l2) u1 S2 fun v3 F3 H3 l3 S3 h3 => ⟨F3, cs1, .ref w, x, v3, y, by rw [show v = .ref w from e2], S3, ⟨sr.up (Le.refl _) u1 (hx F3 (l1.trans (l2.trans l3)))⟩, ⟨h3⟩, hp, fun z' v' F' H' l4 S4 h4 p4 => ?_⟩) hst⟩
    have := hy _ p4
    subst this
    exact q v' F' H' (l2.trans (l3.trans l4.le)) S4 h4.h) hst hpl ht
/-- o.m() -/
theorem we_meth0 {w : Addr} {fs : List (Str × V)} {pre : α → Prop} {post : α → γ → Prop} {pl : Sem Bool} [sr : Stable r] (M : Mt X.prog X.w X.K X.mg X.base C k m q st ps (sp1 r u pre post)) (c : Cls X.K C) (hr : Room l X.A) (ho : GE X σ F cs o rA w) (i : Ins C F0 w fs) [l0 : Le F0 F] (hf : fs.lookup m = none) (S : Sta F cs H)
    (hx : ∀ F2, Le F F2 → r F2 cs (.ref w) x) (hp : pre x) (kk : ∀ y v F2 H2, Le1 F F2 → Sta F2 cs H2 → Is u F2 [] v y → post x y → Q v H2) (hk : k ≤ l := by decide)
    (ht : eval (.Call (.Attribute o m apos) [] [] pos) X.env = (do
      let ov ← eval o X.env
      standAt apos.atName
      let (f, first) ← holding [ov] (getMethod ov m pl)
      callWith pos f first (backTo pos (starEach [] X.env)) (backToKw pos (keywordEach [] X.env))) := by rfl) : WE X (.Call (.Attribute o m apos) [] [] pos) σ H Q :=
  we_methW0 M c hr hk (ho F cs H _ (Le.refl _) (Sub.refl _) S fun v F2 H2 l2 S2 e2 => by
    obtain ⟨dx, hw⟩ := (i.up (l0.trans l2)).at S2
    exact ⟨w, dx, fs, e2, hw, hf, F2, cs, .ref w, x, by rw [show v = .ref w from e2], S2, ⟨hx F2 l2⟩, hp, fun z' v' F' H' l4 S4 h4 p4 => kk z' v' F' H' (l2.one.tr l4) S4 h4 p4⟩) ht
/-- o.f = e: the n-th cell an instance -/
theorem ws_fld {p2 : Pos} {w dx : Addr} {fs : List (Str × V)} (c : Cls X.K C) (na : NoAttr X.K C f) (n : Nat) (ho : ∀ {F : Hp} {cs : Cs}, GE X σ F cs o rA w) (hlen : fs.length < 999)
    (h : WE X e σ H fun v H1 => ∃ F1 cs1, Sta F1 cs1 H1 ∧ cs1[n]? = some (w, .ins C dx fs) ∧ ∀ F2 H2, Le1 F1 F2 → Sta F2 (cs1.set n (w, .ins C dx (putF f v fs))) H2 → D.nx σ H2)
    (hs : swapsWith e (some (.Attribute o f p2)) pos.line X.env = pure false := by rfl) : WS X (.Assign [.Attribute o f p2] e pos) D σ H :=
  wsB (ps_fld peW peW hs) (h.mono fun v H1 ⟨F1, cs1, S1, hn, k⟩ => ho F1 cs1 H1 _ (Le.refl _) (Sub.refl _) S1 fun v2 F2 H2 l2 S2 e2 => ⟨w, C, dx, fs, e2, S2.has _ (List.mem_of_getElem? hn), c, na, by omega, k F2 _ l2.one (S2.set hn (fun ob u z => by cases z))⟩)
/-- o[i] = e: a dict in the n-th cell, by its expression -/
theorem ws_dputE {p3 : Pos} {i : Int} {w : Addr} {kvs : List (Key × V)} (n : Nat) (hu : X.A.units + 1 < cLine) (ho : GE X σ F cs o rA w) (S : Sta F cs H) (hw : cs[n]? = some (w, .dK kvs)) (he : GE X σ F cs e (fz r) x) (hi : GE X σ F cs a rI i) (hl : kvs.length < sizeLine)
    (kk : ∀ v F2 H2, Le1 F F2 → Sta F2 (cs.set n (w, .dK (putK kvs (.inl i) v))) H2 → Is r F2 [] v x → D.nx σ H2) [s : Stable r]
    (hs : swapsWith e (some (.Subscript o a p3)) pos.line X.env = pure false := by rfl) : WS X (.Assign [.Subscript o a p3] e pos) D σ H :=
  ws_dputW hu (he F cs H _ (Le.refl _) (Sub.refl _) S fun v F2 H2 l S2 q => ho F2 cs H2 _ l (Sub.refl _) S2 fun v2 F3 H3 l3 S3 e2 => ⟨w, e2, hi F3 cs H3 _ (l.trans l3) (Sub.refl _) S3 fun v3 F4 H4 l4 S4 e3 => ⟨kvs, i, e3, sta_dct S4 hw, hl, kk v F4 _ (l.trans (l3.trans l4)).one (S4.set hw nfD) ⟨s.up (l3.trans l4) (Sub.refl _) q⟩⟩⟩) hs
/-- C(): a new instance by its __init__ -/
theorem we_make0 {z : Str} {pp : Pos} {fi : Addr} {fd : FuncData} (M : Mk X.K C fi) (G : FnOk X.prog X.w X.K X.mg X.base CX0 k fi fd ps sp) (hb : Binds X.K fd ps []) (hr : Room (k + 1) X.A) (hg : Gl X z) (hm : X.mg z = some (.ref C)) (S : Sta F cs H)
    (h : ∀ x dx H1, Sta F ((x, .ins C dx []) :: cs) H1 → sp [.ref x] H1 (fun v H2 => v = .non ∧ Q (.ref x) H2) E0) (hdb : (z == ("__debug__" : Str)) = false := by decide) : WE X (.Call (.Name z pp) [] [] pos) σ H Q :=
  weB (pe_make0 M G hr hg hm hb .nil pass0 hdb) fun x dx nx ndx nex => h x dx _ ((S.junk ndx _).cell (by rw [upd_ne nex.symm]; exact nx) _)
end
end DL

-- part K97q
namespace K97
open PySem PySem.Spec PyProof.Rows L2 DL
abbrev sTInit : Stmt := inClass (topS 29) 0
abbrev sDebt : Stmt := inClass (topS 29) 1
abbrev sCame : Stmt := inClass (topS 29) 2
abbrev sDebts : Stmt := inClass (topS 29) 3
theorem scTInit : FnScope ["self"] ["self"] (defScope sTInit) := ⟨rfl, rfl, rfl, by decide +kernel, rfl, by decide +kernel, by decide +kernel⟩
theorem scDebt : FnScope ["self", "person", "top", "bottom"] ["self", "person"] (defScope sDebt) := ⟨rfl, rfl, rfl, by decide +kernel, rfl, by decide +kernel, by decide +kernel⟩
theorem scCame : FnScope ["self", "group", "person", "found", "top", "bottom", "most", "base"] ["self", "group"] (defScope sCame) := ⟨rfl, rfl, rfl, by decide +kernel, rfl, by decide +kernel, by decide +kernel⟩
theorem scDebts : FnScope ["self", "person"] ["self"] (defScope sDebts) := ⟨rfl, rfl, rfl, by decide +kernel, rfl, by decide +kernel, by decide +kernel⟩
def tf (d1 d2 : Addr) : List (Str × V) := putF "_taken" (.ref d2) (putF "_shares" (.ref d1) [])
theorem st_ne : ¬ (("_shares" : Str) = "_taken") := by decide +kernel
theorem tf_s (d1 d2 : Addr) : (tf d1 d2).lookup ("_shares" : Str) = some (.ref d1) := by
  unfold tf
  rw [lookup_putF, if_neg st_ne, lookup_putF, if_pos rfl]
theorem tf_t (d1 d2 : Addr) : (tf d1 d2).lookup ("_taken" : Str) = some (.ref d2) := by
  unfold tf
  rw [lookup_putF, if_pos rfl]
theorem tf_no (d1 d2 : Addr) {m : Str} (h1 : ¬ m = "_taken") (h2 : ¬ m = "_shares") : (tf d1 d2).lookup m = none := by
  unfold tf
  rw [lookup_putF, if_neg h1, lookup_putF, if_neg h2]
  all_goals rfl
structure TxtT (K : PySem.W.Frag) (mg : Str → Option Value) (C : Addr) : Prop extends Txt2 mg where
  cl : Cls K C
  nS : NoAttr K C "_shares"
  nT : NoAttr K C "_taken"
  mgC : mg "Turns" = some (.ref C)
abbrev rShs : Rep Shs := rD (rT2 rI rI)
/-- a Turns with its two dicts -/
def rSelf (C : Addr) : Rep (Shs × List (Int × Int)) := fun F cs v x => ∃ w d1 d2, v = .ref w ∧ Ins C F w (tf d1 d2) ∧ rShs F cs (.ref d1) x.1 ∧ rD rI F cs (.ref d2) x.2
instance (C : Addr) : Stable (rSelf C) := ⟨fun l u ⟨w, d1, d2, e, i, h1, h2⟩ => ⟨w, d1, d2, e, i.up l, Stable.up (r := rShs) l u h1, Stable.up (r := rD rI) l u h2⟩⟩
section
variable {P : Program} {w : World} {K : PySem.W.Frag} {mg : Str → Option Value} {base : Heap} {C : Addr}
def spTInit (C : Addr) : Sp := fun vs H Q _ => ∃ F cs x dx, vs = [.ref x] ∧ Sta F ((x, .ins C dx []) :: cs) H ∧ ∀ F' d1 d2 H', Le1 F F' → Ins C F' x (tf d1 d2) → Sta F' ((d2, .dK []) :: (d1, .dK []) :: cs) H' → Q .non H'
abbrev FTInit (P : Program) (w : World) (K : PySem.W.Frag) (mg : Str → Option Value) (base : Heap) (C f : Addr) (fd : FuncData) : Prop := FnOk P w K mg base CX0 1 f fd ["self"] (spTInit C)
theorem fn_tinit {f : Addr} {fd : FuncData} (T : TxtT K mg C) (hF : Fun K "__init__" "Turns.__init__" sTInit f fd) : FTInit P w K mg base C f fd := by
  refine hF.ok scTInit (fun vs H Q E h => ?_) (fun cdv A outer s H vs Q E hr h => ⟨_, pssW, ?_⟩)
  · obtain ⟨_, _, _, _, rfl, _⟩ := h
    rfl
  · obtain ⟨F, cs, x, dx, rfl, S, k⟩ := h
    refine wss_cons (ws_fld T.cl T.nS 1 (ge_va (n := 0) rfl rfl) (by decide) (we_dnilC S fun d1 H1 S1 => ⟨F, _, S1, rfl, fun F2 H2 l2 S2 => ?_⟩))
    have S2 : Sta F2 ((d1, .dK []) :: (x, .ins C dx (putF "_shares" (.ref d1) [])) :: cs) H2 := S2
    refine wss_one (ws_fld T.cl T.nT 2 (ge_va (n := 0) rfl rfl) (by show 1 < 999; decide) (we_dnilC S2 fun d2 H3 S3 => ⟨F2, _, S3, rfl, fun F4 H4 l4 S4 => ?_⟩))
    have S4 : Sta F4 ((d2, .dK []) :: (d1, .dK []) :: (x, .ins C dx (tf d1 d2)) :: cs) H4 := S4
    have S5 : Sta F4 ((x, .ins C dx (tf d1 d2)) :: (d2, .dK []) :: (d1, .dK []) :: cs) H4 := S4.perm (((List.Perm.swap _ _ _).cons _).trans (List.Perm.swap _ _ _))
    have S6 := S5.freeze (fun ob u z => by cases z)
    exact k _ d1 d2 H4 (l2.tr (l4.tr S6.1)) ⟨⟨dx, upd_same⟩⟩ S6.2
abbrev FDebt (P : Program) (w : World) (K : PySem.W.Frag) (mg : Str → Option Value) (base : Heap) (C : Addr) : Prop := Mt P w K mg base C 1 "_debt" "Turns._debt" sDebt ["self", "person"]
  (sp2 (rSelf C) rI (rT2 rI rI) (fun x p => p ∈ keys x.1 ∧ 0 < (gsh x.1 p).2 ∧ (gsh x.1 p).2 ≤ 60) (fun x p y => y = ((gsh x.1 p).1 - ((look x.2 p).getD 0) * (gsh x.1 p).2, (gsh x.1 p).2)))
theorem fn_debt {f : Addr} {fd : FuncData} (T : TxtT K mg C) (hF : Fun K "_debt" "Turns._debt" sDebt f fd) (hm : Meth K C "_debt" f) (hb : Binds K fd ["self", "person"] []) : FDebt P w K mg base C := by
  refine mt_mk hF hm hb scDebt sp2_len fun cdv A outer s H vs Q E hr ⟨F, cs, v, ⟨sh, tk⟩, v2, p, e, S, ⟨⟨x, d1, d2, ev, hi, h1, h2⟩⟩, ⟨hv2⟩, ⟨hp, h60, h60'⟩, k⟩ => ?_
  subst e
  subst ev
  obtain rfl : v2 = .int p := hv2
  dsimp only at h1 h2 hp h60 h60' k
  have hlk : look sh p = some (gsh sh p) := by
    obtain ⟨s0, hs0⟩ := Option.isSome_iff_exists.mp (look_some.mpr hp)
    unfold gsh; rw [hs0]; rfl
  refine wss_cons (ws_asgT (gb_t2 rfl (gb_i scDebt.nd (i := 2) rfl (.inl rfl)) (gb_i scDebt.nd (i := 3) rfl (.inl rfl)))
    (ge_dget (hu1 hr) (ge_fld (r := rShs) T.cl T.nS (ge_va (n := 0) rfl rfl) hi (tf_s d1 d2) (fun F2 l2 => Stable.up (r := rShs) l2 (Sub.refl _) h1)) (ge_vi (n := 1) rfl rfl) hlk) S fun v3 F3 H3 σ3 l3 S3 ⟨u1, u2, σ4, e1, e2⟩ => ?_)
  subst e1
  subst e2
  refine wss_one (ws_ret (ge_tup2 (r := rI) (t := rI) (ge_sub (ge_vi (n := 2) rfl rfl) (ge_mul (ge_get2 (r := rI) (hu1 hr) (ge_fld (r := rD rI) T.cl T.nT (ge_va (n := 0) rfl rfl) hi (tf_t d1 d2) (fun F2 l2 => Stable.up (r := rD rI) (l3.le.trans l2) (Sub.refl _) h2)) (ge_vi (n := 1) rfl rfl) ge_int) (ge_vi (n := 3) rfl rfl) (.inr ⟨by show -(2 ^ 64) < (gsh sh p).2; omega, by show (gsh sh p).2 < 2 ^ 64; omega⟩))) (ge_vi (n := 3) rfl rfl)) S3 fun v5 F5 H5 l5 S5 h5 => ?_)
  exact k _ v5 F5 H5 (l3.tr l5) S5 ⟨h5.h⟩ rfl
end
end K97

-- part K97r
namespace K97
open PySem PySem.Spec PyProof.Rows L2 DL
/-- what is owed -/
def dbt (x : Shs × List (Int × Int)) (p : Int) : Int × Int := ((gsh x.1 p).1 - ((look x.2 p).getD 0) * (gsh x.1 p).2, (gsh x.1 p).2)
def debtsM (x : Shs × List (Int × Int)) : List (Int × Int × Int) := (srt (keys x.1)).map fun p => (p, (dbt x p).1, (dbt x p).2)
theorem AllShr.at {d : Shs} (h : AllShr d) (p : Int) : 0 < (gsh d p).2 ∧ (gsh d p).2 ≤ 60 := let ⟨_, s⟩ := h.1 p; ⟨s.pos, s.le⟩
section
variable {P : Program} {w : World} {K : PySem.W.Frag} {mg : Str → Option Value} {base : Heap} {C : Addr}
abbrev FDebts (P : Program) (w : World) (K : PySem.W.Frag) (mg : Str → Option Value) (base : Heap) (C : Addr) : Prop := Mt P w K mg base C 2 "debts" "Turns.debts" sDebts ["self"]
  (sp1 (rSelf C) (rL (rT3 rI rI rI)) (fun x => AllShr x.1) (fun x y => y = debtsM x))
theorem fn_debts {f : Addr} {fd : FuncData} (T : TxtT K mg C) (cD : FDebt P w K mg base C) (hF : Fun K "debts" "Turns.debts" sDebts f fd) (hm : Meth K C "debts" f) (hb : Binds K fd ["self"] []) : FDebts P w K mg base C := by
  refine mt_mk hF hm hb scDebts sp1_len fun cdv A outer s H vs Q E hr ⟨F, cs, v, ⟨sh, tk⟩, e, S, ⟨⟨x, d1, d2, ev, hi, h1, h2⟩⟩, hA, k⟩ => ?_
  subst e
  subst ev
  dsimp only at h1 h2 hA k
  have hAl := hA.len
  refine wss_one (ws_ret (ge_lc0 (r := rI) (t := rT3 rI rI rI) (own := [("person", 1)]) (fun p => (p, (dbt (sh, tk) p).1, (dbt (sh, tk) p).2)) rfl scDebts.nd (blkOk_by (by kernel_rfl))
    (gi_list (ge_sortedD rfl rfl T.sorted (ge_fld (r := rShs) (x := sh) T.cl T.nS (ge_va (n := 0) rfl rfl) hi (tf_s d1 d2) (fun F2 l2 => Stable.up (r := rShs) l2 (Sub.refl _) h1)) (by omega))) (Sub.nil _)
    (fun _ _ _ _ _ => gb_i scDebts.nd (i := 1) rfl (.inl rfl)) (by decide) ?_ (line60 (by rw [srt_length, List.length_map]; omega))) S fun v2 F2 H2 l2 S2 h2 => k _ _ F2 H2 l2 S2 h2.fzn rfl)
  rintro F7 v7 p σ7 l7 hp rfl s0 H0 C' cl fp
  have hpk : p ∈ keys sh := srt_mem.mp hp
  exact ge_tupS (r := rI) (t := rI) (m := rI) (yz := dbt (sh, tk) p) (ge_vi (n := 1) rfl rfl) (GE.un (ge_meth1 (r := rSelf C) (x := (sh, tk)) cD T.cl hr (ge_va (n := 0) rfl rfl) hi (tf_no d1 d2 (by decide +kernel) (by decide +kernel))
    (fun F2 l2 => ⟨x, d1, d2, rfl, hi.up (l7.le.trans l2), Stable.up (r := rShs) (l7.le.trans l2) (Sub.refl _) h1, Stable.up (r := rD rI) (l7.le.trans l2) (Sub.refl _) h2⟩) (ge_vi (n := 1) rfl rfl) ⟨hpk, (hA.at p).1, (hA.at p).2⟩ fun y hy => hy))
end
end K97

-- part K97s
namespace K97
open PySem PySem.Spec PyProof.Rows L2 DL
section
variable {P : Program} {w : World} {K : PySem.W.Frag} {mg : Str → Option Value} {base : Heap} {C : Addr}
/-- a group comes -/
def spCame (C : Addr) : Sp := fun vs H Q _ => ∃ F cs x d1 d2 kvs1 kvs2 sh tk v g, vs = [.ref x, v] ∧ Sta F ((d1, .dK kvs1) :: (d2, .dK kvs2) :: cs) H ∧ Ins C F x (tf d1 d2) ∧ Ens (rT2 rI rI) F kvs1 sh ∧ Ens rI F kvs2 tk ∧ Is (fz (rQ rI)) F cs v g ∧ AllShr sh ∧ Grp g ∧ tk.length ≤ 1000 ∧
  ∀ p F' H' kvs1' kvs2', Le1 F F' → Sta F' ((d1, .dK kvs1') :: (d2, .dK kvs2') :: cs) H' → Ens (rT2 rI rI) F' kvs1' (stepG sh g) → Ens rI F' kvs2' (put tk p ((look tk p).getD 0 + 1)) → p ∈ g → Q (.int p) H'
abbrev FCame (P : Program) (w : World) (K : PySem.W.Frag) (mg : Str → Option Value) (base : Heap) (C : Addr) : Prop := Mt P w K mg base C 4 "came" "Turns.came" sCame ["self", "group"] (spCame C)
theorem spCame_len : ∀ vs H Q E, spCame C vs H Q E → vs.length = 2 := fun vs H Q E ⟨_, _, _, _, _, _, _, _, _, _, _, e, _⟩ => by rw [e]; rfl
theorem fn_came {f : Addr} {fd : FuncData} (T : TxtT K mg C) (cG : FIsGroup P w K mg base) (cW : FWithPart P w K mg base) (cD : FDebt P w K mg base C) (hF : Fun K "came" "Turns.came" sCame f fd) (hm : Meth K C "came" f) (hb : Binds K fd ["self", "group"] []) : FCame P w K mg base C := by
  refine mt_mk hF hm hb scCame spCame_len fun cdv A outer s H vs Q E hr ⟨F, cs, x, d1, d2, kvs1, kvs2, sh, tk, v, g, e, S, hi, h1, h2, hv, hA, hg, htk, k⟩ => ?_
  subst e
  have hgl := hg.le
  refine wss_cons (ws_ifF (gt_not (p := true) (gt_of (ge_call1u cG hr rfl (GE.un (ge_v (n := 1) rfl rfl hv)) hg fun _ h => h))) S fun H1 S1 => wss_nil ?_)
  refine wss_cons (ws_for (own := [(d1, .dK kvs1), (d2, .dK kvs2)]) (R := cs) (fun ps F3 own3 σ3 => ∃ kvs c, own3 = [(d1, .dK kvs), (d2, .dK kvs2)] ∧ Ens (rT2 rI rI) F3 kvs (ps.foldl (stepP g.length) sh) ∧ σ3 = [some (.ref x), some v, c, none, none, none, none, none]) PassesOwn.never rfl
    (gi_v (n := 1) rfl rfl (show Is (rQ rI) F [] v g from ⟨hv.h⟩)) S1 (gb_i scCame.nd (i := 2) rfl (.inl rfl)) rfl (fun pre F' own' σ' R' _ hR => Sub.nil _) (fun F2 l3 => ⟨kvs1, _, rfl, Ens.up l3.le h1, rfl⟩) ?_ ?_)
  · rintro ps p ps2 F3 F4 own3 σ3 H3 v2 σ2 R3 eg l3 l4 hsR2 hR2 S3 ⟨kvs3, c3, rfl, hk3, rfl⟩ rfl
    have hpm : p ∈ g := by rw [eg]; exact List.mem_append_right _ List.mem_cons_self
    have hps : AllShr (ps.foldl (stepP g.length) sh) := AllShr.fold hg.pos hg.le6 ps _ hA fun q hq => hg.bd q (by rw [eg]; exact List.mem_append_left _ hq)
    obtain ⟨Sx, hs⟩ := hps.1 p
    have hlen := hps.len
    have hk4 := Ens.up l4.le hk3
    have hsh : ∀ F2, Le F4 F2 → rShs F2 ([(d1, .dK kvs3), (d2, .dK kvs2)] ++ R3) (.ref d1) (ps.foldl (stepP g.length) sh) := fun F2 l2 => ⟨d1, kvs3, rfl, .inr (.inl List.mem_cons_self), Ens.up l2 hk4⟩
    refine wss_one (ws_dputE (r := rT2 rI rI) 0 (hu1 hr) (ge_fld (r := rA) (x := d1) T.cl T.nS (ge_va (n := 0) rfl rfl) hi (tf_s d1 d2) (fun F2 l2 => rfl)) S3 rfl
      (ge_call2 cW hr rfl (GE.un (ge_get2 (hu1 hr) (ge_fld (r := rShs) T.cl T.nS (ge_va (n := 0) rfl rfl) hi (tf_s d1 d2) hsh) (ge_vi (n := 2) rfl rfl) (ge_tup2 ge_int ge_int))) (ge_lenQ rfl T.len (GE.un (ge_v (n := 1) rfl rfl (show Is (fz (rQ rI)) F [] v g from ⟨hv.h⟩)))) ⟨hs.pos, hs.le, hg.pos, hg.le6⟩ fun _ h => h) (ge_vi (n := 2) rfl rfl)
      (by rw [show kvs3.length = _ from Paired.length hk3, sizeLine_eq]; omega) fun v4 F5 H5 l5 S5 h5 => ⟨F5, _, l5.le, S5, _, _, rfl, ?_, rfl⟩)
    rw [List.foldl_append]
    exact (Ens.up l5.le hk4).put h5.h
  · rintro F3 own3 σ3 H3 R3 l3 hsR hR S3 ⟨kvs3, c3, rfl, hk3, rfl⟩
    have hAg : AllShr (stepG sh g) := AllShr.fold hg.pos hg.le6 g _ hA fun q hq => hg.bd q hq
    have hkg : ∀ p ∈ g, p ∈ keys (stepG sh g) := fun p hp => (step_keys _ g sh p).mpr (.inl hp)
    obtain ⟨a0, gr, eg0⟩ : ∃ a r, g = a :: r := by
      cases hgc : g with
      | nil => exact absurd hgc hg.ne
      | cons a r => exact ⟨a, r, rfl⟩
    refine wss_cons (ws_setI scCame.nd (n := 3) rfl (.inl rfl) (ge_ixQ (r := rI) (GE.un (ge_v (n := 1) rfl rfl (show Is (fz (rQ rI)) F [] v g from ⟨hv.h⟩))) ge_int (by rw [eg0]; exact atI_of (n := 0) rfl)) S3 fun H4 S4 => ?_)
    refine wss_cons (ws_for (own := []) (R := [(d1, .dK kvs3), (d2, .dK kvs2)] ++ R3) (fun ps F5 own5 σ5 => own5 = [] ∧ Le F3 F5 ∧ ∃ q a b c d e, q ∈ g ∧ σ5 = [some (.ref x), some v, a, some (.int q), b, c, d, e]) PassesOwn.never rfl
      (gi_v (n := 1) rfl rfl (show Is (rQ rI) F [] v g from ⟨hv.h⟩)) S4 (gb_i scCame.nd (i := 2) rfl (.inl rfl)) rfl (fun pre F' own' σ' R' _ hR => Sub.nil _) (fun F2 l5 => ⟨rfl, l5.le, a0, _, _, _, _, _, by rw [eg0]; exact List.mem_cons_self, rfl⟩) ?_ ?_)
    · rintro ps p ps2 F5 F6 own5 σ5 H5 v5 σ6 R5 eg l5 l6 hsR5 hR5 S5 ⟨rfl, l35, q, b1, b2, b3, b4, b5, hq, rfl⟩ rfl
      have l35' := l35.one
      have hpm : p ∈ g := by rw [eg]; exact List.mem_append_right _ List.mem_cons_self
      have hself : ∀ F2, Le F6 F2 → rSelf C F2 ([] ++ R5) (.ref x) (stepG sh g, tk) := fun F2 l2 =>
        ⟨x, d1, d2, rfl, hi.up (l3.le.trans (l35.trans (l6.le.trans l2))), ⟨d1, kvs3, rfl, .inr (.inl (hsR5.h _ List.mem_cons_self)), Ens.up (l35.trans (l6.le.trans l2)) hk3⟩, ⟨d2, kvs2, rfl, .inr (.inl (hsR5.h _ (.tail _ List.mem_cons_self))), Ens.up (l3.le.trans (l35.trans (l6.le.trans l2))) h2⟩⟩
      have hi6 : Ins C F6 x (tf d1 d2) := hi.up (l3.le.trans (l35.trans l6.le))
      refine wss_cons (ws_asgT (x := dbt (stepG sh g, tk) p) (r := rT2 rI rI) (gb_t2 rfl (gb_i scCame.nd (i := 4) rfl (.inl rfl)) (gb_i scCame.nd (i := 5) rfl (.inl rfl)))
        (ge_meth1 (r := rSelf C) (x := (stepG sh g, tk)) cD T.cl hr (ge_va (n := 0) rfl rfl) hi6 (tf_no d1 d2 (by decide +kernel) (by decide +kernel)) hself (ge_vi (n := 2) rfl rfl) ⟨hkg p hpm, (hAg.at p).1, (hAg.at p).2⟩ fun y hy => hy) S5 fun v7 F7 H7 σ7 l7 S7 ⟨u1, u2, σ8, e1, e2⟩ => ?_)
      subst e1
      subst e2
      have hself7 : ∀ F2, Le F7 F2 → rSelf C F2 ([] ++ R5) (.ref x) (stepG sh g, tk) := fun F2 l2 => hself F2 (l7.le.trans l2)
      refine wss_cons (ws_asgT (x := dbt (stepG sh g, tk) q) (r := rT2 rI rI) (gb_t2 rfl (gb_i scCame.nd (i := 6) rfl (.inl rfl)) (gb_i scCame.nd (i := 7) rfl (.inl rfl)))
        (ge_meth1 (r := rSelf C) (x := (stepG sh g, tk)) cD T.cl hr (ge_va (n := 0) rfl rfl) hi6 (tf_no d1 d2 (by decide +kernel) (by decide +kernel)) hself7 (ge_vi (n := 3) rfl rfl) ⟨hkg q hq, (hAg.at q).1, (hAg.at q).2⟩ fun y hy => hy) S7 fun v8 F8 H8 σ8 l8 S8 ⟨u3, u4, σ9, e1, e2⟩ => ?_)
      subst e1
      subst e2
      have hbp : -(2 ^ 64) < (dbt (stepG sh g, tk) p).2 ∧ (dbt (stepG sh g, tk) p).2 < 2 ^ 64 := by have := hAg.at p; show -(2 ^ 64) < (gsh (stepG sh g) p).2 ∧ (gsh (stepG sh g) p).2 < 2 ^ 64; omega
      have hbq : -(2 ^ 64) < (dbt (stepG sh g, tk) q).2 ∧ (dbt (stepG sh g, tk) q).2 < 2 ^ 64 := by have := hAg.at q; show -(2 ^ 64) < (gsh (stepG sh g) q).2 ∧ (gsh (stepG sh g) q).2 < 2 ^ 64; omega
      refine wss_one (ws_setI scCame.nd (n := 3) rfl (.inl rfl) (ge_ite (r := rI) (gt_c (gc_gt (ge_mul (ge_vi (n := 4) rfl rfl) (ge_vi (n := 7) rfl rfl) (.inr hbq)) (ge_mul (ge_vi (n := 6) rfl rfl) (ge_vi (n := 5) rfl rfl) (.inr hbp)))) (fun _ => ge_vi (n := 2) rfl rfl) (fun _ => ge_vi (n := 3) rfl rfl)) S8 fun H9 S9 => ⟨F8, [], l7.le.trans l8.le, S9, rfl, l35.trans (l6.le.trans (l7.le.trans l8.le)), _, _, _, _, _, _, ?_, rfl⟩)
      split
      · exact hpm
      · exact hq
    · rintro F5 own5 σ5 H5 R5 l5 hsR5 hR5 S5 ⟨rfl, l35, q, b1, b2, b3, b4, b5, hq, rfl⟩
      have S5 : Sta F5 ((d1, .dK kvs3) :: (d2, .dK kvs2) :: R3) H5 := S5.sub hR5
      have h2' : Ens rI F5 kvs2 tk := Ens.up (l3.le.trans l5.le) h2
      have hk5 := Ens.up l5.le hk3
      have hi5 : Ins C F5 x (tf d1 d2) := hi.up (l3.le.trans l5.le)
      refine wss_cons (ws_dputE (r := rI) 1 (hu1 hr) (ge_fld (r := rA) (x := d2) T.cl T.nT (ge_va (n := 0) rfl rfl) hi5 (tf_t d1 d2) (fun F2 l2 => rfl)) S5 rfl
        (ge_add (ge_get2 (r := rI) (hu1 hr) (ge_fld (r := rD rI) (x := tk) T.cl T.nT (ge_va (n := 0) rfl rfl) hi5 (tf_t d1 d2) (fun F2 l2 => ⟨d2, kvs2, rfl, .inr (.inl (.tail _ List.mem_cons_self)), Ens.up l2 h2'⟩)) (ge_vi (n := 3) rfl rfl) ge_int) ge_int) (ge_vi (n := 3) rfl rfl)
        (by rw [show kvs2.length = _ from Paired.length h2, sizeLine_eq]; omega) fun v6 F6 H6 l6 S6 h6 => ?_)
      have S6 : Sta F6 ((d1, .dK kvs3) :: (d2, .dK (putK kvs2 (.inl q) v6)) :: R3) H6 := S6
      refine wss_one (ws_retI (ge_vi (n := 3) rfl rfl) S6 fun H7 S7 => k q F6 H7 kvs3 _ (l3.tr (l5.tr l6)) (S7.sub (((List.Sublist.cons₂ _ (List.Sublist.cons₂ _ hR)))) ) (Ens.up l6.le hk5) ((Ens.up l6.le h2').put h6.h) hq)
end
end K97

-- part K97t
namespace K97
open PySem PySem.Spec PyProof.Rows L2 DL
structure Txt3 (mg : Str → Option Value) : Prop extends Txt2 mg where
  mp2 : ∃ tk, mg "MOST_PEOPLE_dealing" = some (.int 60 tk)
  md : ∃ tk, mg "MOST_DUTIES" = some (.int 60 tk)
abbrev sUnlike : Stmt := topS 10
abbrev sAreDuties : Stmt := topS 33
abbrev sIsAble : Stmt := topS 34
abbrev sCheckAble : Stmt := topS 35
theorem scUnlike : FnScope ["items", "rising", "at"] ["items"] (defScope sUnlike) := ⟨rfl, rfl, rfl, by decide +kernel, rfl, by decide +kernel, by decide +kernel⟩
theorem scAreDuties : FnScope ["value", "item"] ["value"] (defScope sAreDuties) := ⟨rfl, rfl, rfl, by decide +kernel, rfl, by decide +kernel, by decide +kernel⟩
theorem scIsAble : FnScope ["value", "item"] ["value"] (defScope sIsAble) := ⟨rfl, rfl, rfl, by decide +kernel, rfl, by decide +kernel, by decide +kernel⟩
theorem scCheckAble : FnScope ["able"] ["able"] (defScope sCheckAble) := ⟨rfl, rfl, rfl, by decide +kernel, rfl, by decide +kernel, by decide +kernel⟩
structure Row (r : List Int) : Prop where
  ri : r.Pairwise (· < ·)
  bd : ∀ x ∈ r, 0 ≤ x ∧ x ≤ 59
theorem Row.nd {r : List Int} (h : Row r) : r.Nodup := h.ri.imp fun a => by omega
theorem Row.len {r : List Int} (h : Row r) : r.length ≤ 60 := nodup_rng h.nd (n := 60) fun x hx => by have := h.bd x hx; omega
structure Able (A : List (List Int)) : Prop where
  le : A.length ≤ 60
  ok : ∀ r ∈ A, Row r
section
variable {P : Program} {w : World} {K : PySem.W.Frag} {mg : Str → Option Value} {base : Heap}
abbrev FUnlike (P : Program) (w : World) (K : PySem.W.Frag) (mg : Str → Option Value) (base : Heap) : Prop := Fn P w K mg base 1 "are_unlike" sUnlike ["items"] (sp1 (rL rI) rB (fun xs => xs.Nodup ∧ xs.length ≤ 1000) pTrue)
abbrev FAreDuties (P : Program) (w : World) (K : PySem.W.Frag) (mg : Str → Option Value) (base : Heap) : Prop := Fn P w K mg base 3 "are_duties" sAreDuties ["value"] (sp1 (rQ rI) rB Row pTrue)
abbrev FIsAble (P : Program) (w : World) (K : PySem.W.Frag) (mg : Str → Option Value) (base : Heap) : Prop := Fn P w K mg base 4 "is_able" sIsAble ["value"] (sp1 (rL (rL rI)) rB Able pTrue)
abbrev FCheckAble (P : Program) (w : World) (K : PySem.W.Frag) (mg : Str → Option Value) (base : Heap) : Prop := Fn P w K mg base 5 "check_able" sCheckAble ["able"] (sp1 (fz (rL (rL rI))) rN Able (fun _ _ => True))
theorem fn_unlike {f : Addr} {fd : FuncData} (T : Txt3 mg) (hF : Fun K "are_unlike" "are_unlike" sUnlike f fd) (hm : mg "are_unlike" = some (.ref f)) (hb : Binds K fd ["items"] []) : FUnlike P w K mg base := by
  refine fn_mk hF hm hb scUnlike sp1_len fun cdv A outer s H vs Q E hr ⟨F, cs, v, xs, e, S, hv, ⟨hx, hl⟩, k⟩ => ?_
  subst e
  refine wss_cons (ws_set (r := fz (rL rI)) scUnlike.nd (n := 1) rfl (.inr rfl) (ge_sorted rfl T.sorted (ge_v (n := 0) rfl rfl hv)) S fun v1 F1 H1 l1 S1 h1 => ?_)
  have hls : (srt xs).length = xs.length := srt_length xs
  have hnd : (srt xs).Nodup := (srt_perm xs).nodup_iff.mpr hx
  generalize srt xs = ys at *
  refine wss_one (ws_retB (p := ((rng 0 ((ys.length : Int) - 1).toNat).map fun _ => true).all id) ?_ S1 fun H2 S2 => k true _ F1 H2 l1 S2 ⟨by rw [all_true]; rfl⟩ rfl)
  refine ge_all rfl rfl T.all (GE.un (ge_lc0 (own := [("at", 2)]) (fun _ => true) rfl scUnlike.nd (blkOk_by (by kernel_rfl)) (gi_rng1 rfl T.range (ge_sub (ge_lenL rfl T.len (GE.un (ge_v (n := 1) rfl rfl h1))) ge_int) (by omega) (by omega)) (Sub.nil _)
    (fun _ _ _ _ _ => gb_i scUnlike.nd (i := 2) rfl (.inl rfl)) (by decide) ?_ (by rw [rng_length, sizeLine_eq]; omega)))
  rintro F2 v2 x σ1 l2 hxm rfl s0 H0 C cl fp
  have hm := mem_rng.mp hxm
  obtain ⟨n, rfl⟩ : ∃ n : Nat, x = n := ⟨x.toNat, by omega⟩
  have hn : n + 1 < ys.length := by omega
  have h2 : atI ys ((n : Int) + 1) = some ys[n + 1] := by
    rw [show ((n : Int) + 1) = ((n + 1 : Nat) : Int) by omega]
    exact atI_of (List.getElem?_eq_getElem hn)
  have hne := List.pairwise_iff_getElem.mp hnd n (n + 1) (by omega) hn (by omega)
  have e : (!decide (ys[n] = ys[n + 1])) = true := by rw [decide_eq_false hne]; rfl
  rw [← e]
  exact ge_c (gc_ne (ge_ixL (GE.un (ge_v (n := 1) rfl rfl h1)) (ge_vi (n := 2) rfl rfl) (atI_of (List.getElem?_eq_getElem (by omega)))) (ge_ixL (GE.un (ge_v (n := 1) rfl rfl h1)) (ge_add (ge_vi (n := 2) rfl rfl) ge_int) h2))
theorem fn_are_duties {f : Addr} {fd : FuncData} (T : Txt3 mg) (cL : FListed rI P w K mg base) (cF : FFromTo P w K mg base) (cR : FRising P w K mg base) (hF : Fun K "are_duties" "are_duties" sAreDuties f fd) (hm : mg "are_duties" = some (.ref f)) (hb : Binds K fd ["value"] []) : FAreDuties P w K mg base := by
  refine fn_mk hF hm hb scAreDuties sp1_len fun cdv A outer s H vs Q E hr ⟨F, cs, v, g, e, S, hv, hg, k⟩ => ?_
  subst e
  have hlen := hg.len
  refine wss_cons (ws_ifF ?_ S fun H2 S2 => wss_nil (wss_one (ws_retB (p := true) (ge_call1u cR hr rfl (ge_v (n := 0) rfl rfl hv) ⟨hg.ri, by omega⟩ fun _ h => h) S2 fun H3 S3 => k true _ F H3 (Le.refl _).one S3 ⟨rfl⟩ rfl)))
  refine GW.to (gw_or (p := false) (q := false) (gt_not (p := true) (gt_of (ge_call1u cL hr rfl (ge_v (n := 0) rfl rfl hv) True.intro fun _ h => h))) fun _ =>
    gw_or1 (gt_not (p := true) (gt_of ?_)))
  refine ge_is (all_true g) (ge_all rfl rfl T.all (GE.un ?_))
  refine ge_lc0 (own := [("item", 1)]) (fun _ => true) rfl scAreDuties.nd (blkOk_by (by kernel_rfl)) (gi_v (n := 0) rfl rfl hv) (Sub.refl _) (fun _ _ _ _ _ => gb_i scAreDuties.nd (i := 1) rfl (.inl rfl)) (by decide) ?_ (line60 (by omega))
  rintro F1 v1 x σ1 l1 hx rfl s0 H0 C cl fp
  have hbd := hg.bd x hx
  exact ge_call3u cF hr rfl (ge_vi (n := 1) rfl rfl) ge_int (ge_sub (ge_gi rfl T.md) ge_int) True.intro fun _ h => by rw [h, decide_eq_true hbd.1, decide_eq_true (by omega)]; rfl
theorem fn_is_able {f : Addr} {fd : FuncData} (T : Txt3 mg) (cL : FListed (rL rI) P w K mg base) (cG : FAreDuties P w K mg base) (hF : Fun K "is_able" "is_able" sIsAble f fd) (hm : mg "is_able" = some (.ref f)) (hb : Binds K fd ["value"] []) : FIsAble P w K mg base := by
  refine fn_mk hF hm hb scIsAble sp1_len fun cdv A outer s H vs Q E hr ⟨F, cs, v, G, e, S, hv, hg, k⟩ => ?_
  subst e
  have hl := hg.le
  refine wss_one (ws_retB (p := true) ?_ S fun H2 S2 => k true _ F H2 (Le.refl _).one S2 ⟨rfl⟩ rfl)
  refine ge_and (p := true) (ge_call1u cL hr rfl (GE.asQ (ge_v (n := 0) rfl rfl hv)) True.intro fun _ h => h) fun _ => ge_and (p := true) (ge_c (gc_is (decide_eq_true (by omega)) (gc_le (ge_lenL rfl T.len (ge_v (n := 0) rfl rfl hv)) (ge_gi rfl T.mp2)))) fun _ => ge_and1 ?_
  refine ge_is (all_true G) (ge_all rfl rfl T.all (GE.un (ge_lc0 (own := [("item", 1)]) (fun _ => true) rfl scIsAble.nd (blkOk_by (by kernel_rfl)) (gi_v (n := 0) rfl rfl hv.asQ) (Sub.refl _) (fun _ _ _ _ _ => gb_n (rL rI) scIsAble.nd (i := 1) rfl (.inl rfl)) (by decide) ?_ (line60 (by omega)))))
  rintro F1 v1 x σ1 l1 hx ⟨h1, rfl⟩ s0 H0 C cl fp
  exact ge_call1u cG hr rfl (GE.asQ (ge_v (n := 1) rfl rfl h1)) (hg.ok x hx) fun _ h => h
theorem fn_check_able {f : Addr} {fd : FuncData} (T : Txt3 mg) (cG : FIsAble P w K mg base) (hF : Fun K "check_able" "check_able" sCheckAble f fd) (hm : mg "check_able" = some (.ref f)) (hb : Binds K fd ["able"] []) : FCheckAble P w K mg base := by
  refine fn_mk hF hm hb scCheckAble sp1_len fun cdv A outer s H vs Q E hr ⟨F, cs, v, G, e, S, hv, hg, k⟩ => ?_
  subst e
  refine wss_one (ws_ifF (gt_not (p := true) (gt_of (ge_call1u cG hr rfl (GE.un (ge_v (n := 0) rfl rfl hv)) hg fun _ h => h))) S fun H2 S2 => wss_nil (k () _ F H2 (Le.refl _).one S2 ⟨rfl⟩ True.intro))
end
end K97

-- part K97u
/-! k97, dealing: plain law -/
namespace K97
open DL
abbrev Ds := List (Int × Int)
def rowAt (A : List (List Int)) (p : Int) : List Int := (A[p.toNat]?).getD []
theorem rowAt_of {A : List (List Int)} {p : Int} (h : 0 ≤ p ∧ p < A.length) : A[p.toNat]? = some (rowAt A p) ∧ rowAt A p ∈ A := by
  have hl : p.toNat < A.length := by omega
  unfold rowAt
  rw [List.getElem?_eq_getElem hl]
  exact ⟨rfl, List.getElem_mem hl⟩
structure Deal (A : List (List Int)) (D : Ds) : Prop where
  nd : (keys D).Nodup
  ok : ∀ e ∈ D, (0 ≤ e.2 ∧ e.2 < A.length) ∧ e.1 ∈ rowAt A e.2
  inj : ∀ e ∈ D, ∀ e' ∈ D, e.2 = e'.2 → e = e'
structure Ask (A : List (List Int)) (D : Ds) (s : Int) (q : Ds) : Prop where
  nd : (keys q).Nodup
  row : ∀ e ∈ q, (0 ≤ e.2 ∧ e.2 < A.length) ∧ e.1 ∈ rowAt A e.2
  src : ∀ (i : Nat) (e : Int × Int), q[i]? = some e → e.2 = s ∨ ∃ (j : Nat) (e' : Int × Int), j < i ∧ q[j]? = some e' ∧ look D e'.1 = some e.2
def Src (D : Ds) (s : Int) (q : Ds) (p : Int) : Prop := p = s ∨ ∃ e ∈ q, look D e.1 = some p
/-- what a search for a duty tells -/
def Reach (A : List (List Int)) (D : Ds) (s : Int) (q : Ds) (res : Option Int) : Prop := Ask A D s q ∧ match res with
  | some d => d ∈ keys q ∧ look D d = none
  | none => (∀ k ∈ keys q, (look D k).isSome = true) ∧ ∀ p, Src D s q p → ∀ d ∈ rowAt A p, d ∈ keys q
structure RI (A : List (List Int)) (D : Ds) (s : Int) (ex : Option Int) (q : Ds) (wt : List Int) : Prop where
  ask : Ask A D s q
  bd : ∀ k ∈ keys q, 0 ≤ k ∧ k ≤ 59
  tk : ∀ k ∈ keys q, (look D k).isSome = true
  wsrc : ∀ p ∈ wt, Src D s q p
  cl : ∀ p, Src D s q p → p ∈ wt ∨ ex = some p ∨ ∀ d ∈ rowAt A p, d ∈ keys q
def rmu (q : Ds) (wt : List Int) : Nat := 2 * (60 - (keys q).length) + wt.length
variable {A : List (List Int)} {D : Ds} {s : Int}
theorem RI.len {ex : Option Int} {q : Ds} {wt : List Int} (h : RI A D s ex q wt) : (keys q).length ≤ 60 := nodup_rng h.ask.nd (n := 60) fun x hx => by have := h.bd x hx; omega
theorem Ask.add {q : Ds} (h : Ask A D s q) {d p : Int} (hd : d ∉ keys q) (hp : (0 ≤ p ∧ p < A.length) ∧ d ∈ rowAt A p) (hs : Src D s q p) : Ask A D s (q ++ [(d, p)]) := by
  refine ⟨?_, fun e he => ?_, fun i e hi => ?_⟩
  · unfold keys
    rw [List.map_append, List.nodup_append]
    exact ⟨h.nd, by simp, fun a ha b hb e => by
      have : b = d := by simpa using hb
      rw [this] at e; exact hd (e ▸ ha)⟩
  · rcases List.mem_append.mp he with z | z
    · exact h.row e z
    · rw [List.mem_singleton.mp z]; exact hp
  · by_cases hlt : i < q.length
    · rw [List.getElem?_append_left hlt] at hi
      rcases h.src i e hi with z | ⟨j, e', hj, h1, h2⟩
      · exact .inl z
      · exact .inr ⟨j, e', hj, by rw [List.getElem?_append_left (by omega)]; exact h1, h2⟩
    · rw [List.getElem?_append_right (by omega)] at hi
      have : e = (d, p) := by
        cases hk : i - q.length with
        | zero => rw [hk] at hi; simpa using hi.symm
        | succ n => rw [hk] at hi; simp at hi
      subst this
      rcases hs with z | ⟨e', he', h2⟩
      · exact .inl z
      · obtain ⟨j, hj⟩ := List.mem_iff_getElem?.mp he'
        have hjl := (List.getElem?_eq_some_iff.mp hj).1
        exact .inr ⟨j, e', by omega, by rw [List.getElem?_append_left hjl]; exact hj, h2⟩
theorem Src.mono {q : Ds} {p : Int} (h : Src D s q p) (e : Int × Int) : Src D s (q ++ [e]) p := h.imp id fun ⟨e', he, h2⟩ => ⟨e', List.mem_append_left _ he, h2⟩
theorem RI.add {ex : Option Int} {q : Ds} {wt : List Int} (h : RI A D s ex q wt) {d p p' : Int} (hd : d ∉ keys q) (hp : (0 ≤ p ∧ p < A.length) ∧ d ∈ rowAt A p) (hdb : 0 ≤ d ∧ d ≤ 59) (hs : Src D s q p) (hl : look D d = some p') : RI A D s ex (q ++ [(d, p)]) (wt ++ [p']) ∧ rmu (q ++ [(d, p)]) (wt ++ [p']) ≤ rmu q wt := by
  have hk : keys (q ++ [(d, p)]) = keys q ++ [d] := by unfold keys; rw [List.map_append]; rfl
  have hR : RI A D s ex (q ++ [(d, p)]) (wt ++ [p']) := by
    refine ⟨h.ask.add hd hp hs, fun k hk' => ?_, fun k hk' => ?_, fun x hx => ?_, fun x hx => ?_⟩
    · rw [hk] at hk'
      rcases List.mem_append.mp hk' with z | z
      · exact h.bd k z
      · rw [List.mem_singleton.mp z]; exact hdb
    · rw [hk] at hk'
      rcases List.mem_append.mp hk' with z | z
      · exact h.tk k z
      · rw [List.mem_singleton.mp z, hl]; rfl
    · rcases List.mem_append.mp hx with z | z
      · exact (h.wsrc x z).mono _
      · rw [List.mem_singleton.mp z]
        exact .inr ⟨(d, p), List.mem_append_right _ List.mem_cons_self, hl⟩
    · have old : Src D s q x → x ∈ wt ++ [p'] ∨ ex = some x ∨ ∀ d' ∈ rowAt A x, d' ∈ keys (q ++ [(d, p)]) := fun z => by
        rcases h.cl x z with z | z | z
        · exact .inl (List.mem_append_left _ z)
        · exact .inr (.inl z)
        · exact .inr (.inr fun d' hd' => by rw [hk]; exact List.mem_append_left _ (z d' hd'))
      rcases hx with z | ⟨e, he, h2⟩
      · exact old (.inl z)
      · rcases List.mem_append.mp he with z | z
        · exact old (.inr ⟨e, z, h2⟩)
        · rw [List.mem_singleton.mp z] at h2
          rw [hl] at h2
          cases h2
          exact .inl (List.mem_append_right _ List.mem_cons_self)
  refine ⟨hR, ?_⟩
  have := hR.len
  unfold rmu
  rw [hk, List.length_append, List.length_append] at *
  simp only [List.length_singleton] at *
  omega
theorem RI.init (hs : 0 ≤ s ∧ s < A.length) : RI A D s none [] [s] := ⟨⟨List.nodup_nil, (fun _ z => by cases z), fun i e h => by simp at h⟩, (fun _ z => by cases z), (fun _ z => by cases z), fun p hp => .inl (List.mem_singleton.mp hp), fun p hp => by
  rcases hp with z | ⟨_, z, _⟩
  · exact .inl (by rw [z]; exact List.mem_cons_self)
  · cases z⟩
theorem RI.pop {q : Ds} {p : Int} {rest : List Int} (h : RI A D s none q (p :: rest)) : RI A D s (some p) q rest ∧ Src D s q p :=
  ⟨⟨h.ask, h.bd, h.tk, fun x hx => h.wsrc x (List.mem_cons_of_mem _ hx), fun x hx => by
    rcases h.cl x hx with z | z | z
    · rcases List.mem_cons.mp z with z | z
      · exact .inr (.inl (by rw [z]))
      · exact .inl z
    · exact nomatch z
    · exact .inr (.inr z)⟩, h.wsrc p List.mem_cons_self⟩
theorem RI.close {q : Ds} {p : Int} {wt : List Int} (h : RI A D s (some p) q wt) (hp : ∀ d ∈ rowAt A p, d ∈ keys q) : RI A D s none q wt := ⟨h.ask, h.bd, h.tk, h.wsrc, fun x hx => by
  rcases h.cl x hx with z | z | z
  · exact .inl z
  · cases z; exact .inr (.inr hp)
  · exact .inr (.inr z)⟩
theorem RI.fin {q : Ds} (h : RI A D s none q []) : Reach A D s q none := ⟨h.ask, h.tk, fun p hp => by
  rcases h.cl p hp with z | z | z
  · cases z
  · cases z
  · exact z⟩
theorem RI.found {ex : Option Int} {q : Ds} {wt : List Int} (h : RI A D s ex q wt) {d p : Int} (hd : d ∉ keys q) (hp : (0 ≤ p ∧ p < A.length) ∧ d ∈ rowAt A p) (hs : Src D s q p) (hl : look D d = none) : Reach A D s (q ++ [(d, p)]) (some d) :=
  ⟨h.ask.add hd hp hs, by unfold keys; rw [List.map_append]; exact List.mem_append_right _ List.mem_cons_self, hl⟩
theorem src_bd {q : Ds} (hD : Deal A D) (hs : 0 ≤ s ∧ s < A.length) {p : Int} (h : Src D s q p) : 0 ≤ p ∧ p < A.length := by
  rcases h with z | ⟨e, _, h2⟩
  · rw [z]; exact hs
  · exact (hD.ok _ (look_mem h2)).1
end K97

-- part DLl
/-! DL, twelfth part: a dict in a cell is walked; continue. -/
namespace DL
open PySem PySem.Spec PyProof.Rows L2
section
variable {X : Cx} {σ : Sl} {F : Hp} {cs : Cs} {H : Hp} {st : Stmt} {pos : Pos} {D : Ends} {α : Type} {r : Rep α}
theorem ws_cont (h : D.ct σ H) : WS X (.Continue pos) D σ H := wsB ps_continue h
theorem ws_pass (h : D.nx σ H) : WS X (.Pass pos) D σ H := wsB ps_pass h
def rmv (F : Hp) (w : Addr) : Hp := fun a => if a = w then none else F a
theorem rmv_ne {F : Hp} {w a : Addr} (h : a ≠ w) : rmv F w a = F a := if_neg h
theorem Sta.unlock {w : Addr} {od : Obj} {kvs : List (Key × V)} (S : Sta F ((w, .frz od (.dK kvs)) :: cs) H) : Sta (rmv F w) ((w, .dK kvs) :: cs) (upd H w (.dK kvs)) := by
  have nd := S.nd
  rw [List.map_cons, List.nodup_cons] at nd
  have hne : ∀ p ∈ cs, p.1 ≠ w := fun p hp z => nd.1 (by rw [← z]; exact List.mem_map.mpr ⟨p, hp, rfl⟩)
  refine ⟨fun a o e => ?_, fun p hp => ?_, fun p hp => ?_, S.nd⟩
  · by_cases h : a = w
    · unfold rmv at e; rw [if_pos h] at e; cases e
    · rw [rmv_ne h] at e
      rw [upd_ne h]
      exact S.le a o e
  · rcases List.mem_cons.mp hp with z | z
    · rw [z]; exact upd_same
    · rw [upd_ne (hne p z)]
      exact S.has p (List.mem_cons_of_mem _ z)
  · rcases List.mem_cons.mp hp with z | z
    · rw [z]; exact .inl (if_pos rfl)
    · rcases S.off p (List.mem_cons_of_mem _ z) with q | q
      · exact .inl (by unfold rmv; rw [if_neg (hne p z)]; exact q)
      · exact .inr q
theorem Le1.rmv {F F2 : Hp} {w : Addr} {o : HO} (hn : F w = none) (l : Le1 (upd F w o) F2) : Le1 F (rmv F2 w) := ⟨fun a u e => by
  have hne : a ≠ w := fun z => by rw [z, hn] at e; cases e
  rw [rmv_ne hne]
  exact l.h a u (by rw [upd_ne hne]; exact e)⟩
theorem Sta.lockD {w : Addr} {kvs : List (Key × V)} (S : Sta F ((w, .dK kvs) :: cs) H) (od : Obj) : F w = none ∧ Sta (upd F w (.dK kvs)) ((w, .frz od (.dK kvs)) :: cs) (upd H w (.frz od (.dK kvs))) := by
  have nd := S.nd
  rw [List.map_cons, List.nodup_cons] at nd
  have hne : ∀ p ∈ cs, p.1 ≠ w := fun p hp z => nd.1 (by rw [← z]; exact List.mem_map.mpr ⟨p, hp, rfl⟩)
  have hn : F w = none := by
    rcases S.off _ List.mem_cons_self with z | ⟨_, _, z, _⟩
    · exact z
    · cases z
  refine ⟨hn, fun a o e => ?_, fun p hp => ?_, fun p hp => ?_, S.nd⟩
  · by_cases h : a = w
    · subst h
      rw [upd_same] at e
      cases e
      exact .inr ⟨True.intro, od, upd_same⟩
    · rw [upd_ne h] at e ⊢
      exact S.le a o e
  · rcases List.mem_cons.mp hp with z | z
    · rw [z]; exact upd_same
    · rw [upd_ne (hne p z)]
      exact S.has p (List.mem_cons_of_mem _ z)
  · rcases List.mem_cons.mp hp with z | z
    · rw [z]; exact .inr ⟨od, _, rfl, True.intro⟩
    · rcases S.off p (List.mem_cons_of_mem _ z) with q | q
      · exact .inl (by rw [upd_ne (hne p z)]; exact q)
      · exact .inr q
/-- a statement within which the dict in the first cell is walked; it goes on behind it -/
theorem ws_lockD {w : Addr} {kvs : List (Key × V)} (S : Sta F ((w, .dK kvs) :: cs) H)
    (h : ∀ od H1, Sta (upd F w (.dK kvs)) ((w, .frz od (.dK kvs)) :: cs) H1 → WS X st { nx := fun σ' H' => H' w = some (.frz od (.dK kvs)) ∧ D.nx σ' (upd H' w (.dK kvs)), rt := fun v H' => H' w = some (.frz od (.dK kvs)) ∧ D.rt v (upd H' w (.dK kvs)), bk := fun σ' H' => H' w = some (.frz od (.dK kvs)) ∧ D.bk σ' (upd H' w (.dK kvs)), ct := fun σ' H' => H' w = some (.frz od (.dK kvs)) ∧ D.ct σ' (upd H' w (.dK kvs)) } σ H1) : WS X st D σ H :=
  wsB (ps_lock psW) ⟨w, .dK kvs, S.has _ List.mem_cons_self, True.intro, fun od => h od _ (S.lockD od).2⟩
theorem Is.rmvL {w : Addr} {o : HO} {F2 : Hp} {v : V} {ns : List Int} (h : Is (fz (rL rI)) F2 cs v ns) (hw : F2 w = some o) (hno : ∀ vs, o ≠ .lst vs) : Is (fz (rL rI)) (rmv F2 w) [] v ns := by
  obtain ⟨a, vs, e, hd, hp⟩ := h.h
  rcases hd with hd | hd
  · have hne : a ≠ w := fun z => by
      rw [z, hw] at hd
      exact hno vs (Option.some.inj hd)
    exact ⟨a, vs, e, .inl (by rw [rmv_ne hne]; exact hd), by
      have := Els.ints hp
      subst this
      exact Els.ofInts ns⟩
  · cases hd
end
end DL

-- part K97v
namespace K97
open PySem PySem.Spec PyProof.Rows L2 DL
abbrev sReached : Stmt := topS 36
theorem scReached : FnScope ["able", "doer", "starts", "asked_by", "waiting", "person", "duty"] ["able", "doer", "starts"] (defScope sReached) := ⟨rfl, rfl, rfl, by decide +kernel, rfl, by decide +kernel, by decide +kernel⟩
section
variable {P : Program} {w : World} {K : PySem.W.Frag} {mg : Str → Option Value} {base : Heap}
abbrev FReached (P : Program) (w : World) (K : PySem.W.Frag) (mg : Str → Option Value) (base : Heap) : Prop := Fn P w K mg base 1 "reached_from" sReached ["able", "doer", "starts"]
  (sp3 (fz (rL (rL rI))) (rD rI) (fz (rL rI)) (rT2 (rD rI) (rO rI)) (fun A D st => Able A ∧ Deal A D ∧ ∃ s, st = [s] ∧ 0 ≤ s ∧ s < A.length) (fun A D st y => ∃ s, st = [s] ∧ Reach A D s y.1 y.2))
theorem put_new {α : Type} {q : List (Int × α)} {d : Int} {y : α} (h : d ∉ keys q) : put q d y = q ++ [(d, y)] := by
  unfold put
  rw [if_neg fun z => h (look_some.mp z)]
theorem fn_reached {f : Addr} {fd : FuncData} (T : Txt3 mg) (hF : Fun K "reached_from" "reached_from" sReached f fd) (hm : mg "reached_from" = some (.ref f)) (hb : Binds K fd ["able", "doer", "starts"] []) : FReached P w K mg base := by
  refine fn_mk hF hm hb scReached sp3_len fun cdv A outer s H vs Q E hr ⟨F, cs, v, B, v2, D, v3, st, e, S, hv, hv2, hv3, ⟨hA, hD, s0, est, hs0⟩, k⟩ => ?_
  subst e
  subst est
  refine wss_cons (ws_par rfl scReached.nd (n := 3) (m := 4) rfl rfl (by decide) rfl rfl (we_dnilC S fun d1 H1 S1 => we_listC rfl T.list (GE.un (ge_v (n := 2) rfl rfl hv3)) S1 fun d2 vs2 F2 H2 l2 S2 h2 => ?_))
  refine wss_cons (ws_while (ι := Ds × List Int) (fun i σ H => ∃ F' kvs ws b c, Le F F' ∧ σ = [some v, some v2, some v3, some (.ref d1), some (.ref d2), b, c] ∧ Sta F' ((d2, .lst ws) :: (d1, .dK kvs) :: cs) H ∧ Ens rI F' kvs i.1 ∧ Els rI F' ws i.2 ∧
      RI B D s0 none i.1 i.2 ∧ rmu i.1 i.2 ≤ 200) (fun i => rmu i.1 i.2) ([], [s0]) PassesOwn.never
    ⟨F2, _, _, _, _, l2.le, rfl, S2, .nil, h2, RI.init hs0, by show 2 * (60 - 0) + 1 ≤ 200; decide⟩ ?_)
  rintro ⟨q, wt⟩ σ H3 ⟨F3, kvs, ws, b, c, l3, rfl, S3, hk, hw, hI, hwl⟩
  have l3' := l3.one
  dsimp only at hk hw hI hwl
  refine (gt_c (gc_neD (r := rL rI) (hu64 hr) (by decide) (ge_vc (n := 4) rfl rfl List.mem_cons_self hw) (GE.un ge_nil))).run S3 fun H4 S4 => ite2 (fun h => ?_) (fun h => ?_)
  · have hwt : wt ≠ [] := by simpa using h
    match wt, hwt, hw, hI, hwl with
    | p :: rest, _, hw, hI, hwl => ?_
    cases hw with
    | @cons vp _ wrest _ hvp hw' =>
    obtain rfl : vp = .int p := hvp
    obtain ⟨hI2, hsrc⟩ := hI.pop
    have hpb := src_bd hD hs0 hsrc
    obtain ⟨hrow, hrowm⟩ := rowAt_of hpb
    have hRow := hA.ok _ hrowm
    refine wss_cons (ws_setW scReached.nd (n := 5) rfl (.inl rfl) (we_pop0 0 (m := 4) rfl rfl S4 rfl fun H5 S5 => ?_))
    have S5 : Sta F3 ((d2, .lst wrest) :: (d1, .dK kvs) :: cs) H5 := S5
    refine wss_one (ws_for (own := [(d2, .lst wrest), (d1, .dK kvs)]) (R := cs) (fun pre F' own' σ' => ∃ kvs ws q' wt' c, own' = [(d2, .lst ws), (d1, .dK kvs)] ∧ Ens rI F' kvs q' ∧ Els rI F' ws wt' ∧ RI B D s0 (some p) q' wt' ∧ rmu q' wt' ≤ rmu q rest ∧ (∀ d ∈ pre, d ∈ keys q') ∧ wt'.length ≤ 200 ∧ Src D s0 q' p ∧
        σ' = [some v, some v2, some v3, some (.ref d1), some (.ref d2), some (.int p), c]) PassesOwn.never rfl
        (gi_list (ge_ixL (r := rL rI) (GE.un (ge_v (n := 0) rfl rfl hv)) (ge_vi (n := 5) rfl rfl) (by rw [show p = ((p.toNat : Nat) : Int) by omega]; exact atI_of hrow))) S5 (gb_i scReached.nd (i := 6) rfl (.inl rfl)) rfl (fun pre F' own' σ' R' _ hR => Sub.nil _)
        (fun F4 l4 => ⟨kvs, wrest, q, rest, _, rfl, Ens.up l4.le hk, Els.up l4.le hw', hI2, Nat.le_refl _, (fun _ z => by cases z), by unfold rmu at hwl; rw [List.length_cons] at hwl; omega, hsrc, rfl⟩) ?_ ?_)
    · rintro pre d post F4 F5 own' σ' H7 v7 σ1 R' eG l4 l5 hsR hR S7 ⟨kvs4, ws4, q4, wt4, c4, rfl, hk4, hw4, hI4, hm4, hp4, hl4, hs4, rfl⟩ rfl
      have hdr : d ∈ rowAt B p := by rw [eG]; exact List.mem_append_right _ List.mem_cons_self
      have hk5 := Ens.up l5.le hk4
      have hw5 := Els.up l5.le hw4
      have hql := hI4.len
      have hprel : pre.length ≤ 60 := by
        have := hRow.len
        rw [eG, List.length_append] at this
        omega
      refine wss_cons (ws_if (gt_c (gc_inD (hu1 hr) (ge_vi (n := 6) rfl rfl) (ge_vd (n := 3) rfl rfl (.tail _ List.mem_cons_self) hk5))) S7 (fun ho H9 S9 => ?_) (fun ho H9 S9 => wss_nil ?_))
      · refine wss_one (ws_cont ⟨F5, _, Le.refl _, S9, kvs4, ws4, q4, wt4, _, rfl, hk5, hw5, hI4, hm4, fun x hx => ?_, hl4, hs4, rfl⟩)
        rcases List.mem_append.mp hx with z | z
        · exact hp4 x z
        · rw [List.mem_singleton.mp z]; exact look_some.mp ho
      · have hnk : d ∉ keys q4 := fun z => by rw [look_some.mpr z] at ho; cases ho
        have hkq : keys (q4 ++ [(d, p)]) = keys q4 ++ [d] := by unfold keys; rw [List.map_append]; rfl
        refine wss_cons (ws_dput (r := rI) 1 (hu1 hr) (m := 3) rfl rfl S9 rfl (ge_vi (n := 5) rfl rfl) (ge_vi (n := 6) rfl rfl) (by rw [show kvs4.length = _ from Paired.length hk4, sizeLine_eq, ← keys_length]; omega) fun v10 F10 H10 l10 S10 h10 => ?_)
        have S10 : Sta F10 ((d2, .lst ws4) :: (d1, .dK (putK kvs4 (.inl d) v10)) :: R') H10 := S10
        have hk10 : Ens rI F10 (putK kvs4 (.inl d) v10) (q4 ++ [(d, p)]) := by rw [← put_new hnk]; exact (Ens.up l10.le hk5).put h10.h
        have hv2' : Is (rD rI) F ((d2, .lst ws4) :: (d1, .dK (putK kvs4 (.inl d) v10)) :: R') v2 D := ⟨Stable.up (r := rD rI) (Le.refl _) (hsR.trans ⟨fun p hp => .tail _ (.tail _ hp)⟩) hv2.h⟩
        have l1' : Le F F10 := l3.trans (l4.le.trans (l5.le.trans l10.le))
        refine wss_cons (ws_if (gt_c (gc_ninD (hu1 hr) (ge_vi (n := 6) rfl rfl) (ge_v (n := 1) rfl rfl hv2'))) S10 (fun ho2 H11 S11 => ?_) (fun ho2 H11 S11 => wss_nil ?_))
        · have hl : look D d = none := by
            have : (look D d).isSome = false := by simpa using ho2
            cases h : look D d with
            | none => rfl
            | some y => rw [h] at this; cases this
          have S12 : Sta F10 ((d1, .dK (putK kvs4 (.inl d) v10)) :: (d2, .lst ws4) :: R') H11 := S11.perm (List.Perm.swap _ _ _)
          obtain ⟨F13, l13, S13, h13⟩ := frzD S12 hk10
          refine wss_one (ws_ret (ge_tup2 (r := rD rI) (t := rO rI) (x := q4 ++ [(d, p)]) (y := some d) (ge_v (n := 3) rfl rfl h13) (ge_some (r := rI) (fun _ _ _ _ e z => by rw [z] at e; cases e) (ge_vi (n := 6) rfl rfl))) S13 fun v14 F14 H14 l14 S14 h14 => ?_)
          exact k _ v14 F14 H14 (l3'.tr (l4.tr (l5.tr (l10.tr (l13.tr l14))))) ((S14.drop).sub hR) ⟨h14.h⟩ ⟨s0, rfl, hI4.found hnk ⟨hpb, hdr⟩ hs4 hl⟩
        · obtain ⟨p', hl⟩ : ∃ p', look D d = some p' := Option.isSome_iff_exists.mp (by simpa using ho2)
          obtain ⟨hI11, hm11⟩ := hI4.add hnk ⟨hpb, hdr⟩ (hRow.bd d hdr) hs4 hl
          have hw10 := Els.up l10.le hw5
          refine wss_one (ws_expr (we_append (r := rI) (x := p') 0 (m := 4) rfl rfl S11 rfl (ge_dget (hu1 hr) (ge_v (n := 1) rfl rfl hv2') (ge_vi (n := 6) rfl rfl) hl) (by rw [show ws4.length = _ from Paired.length hw4, sizeLine_eq]; omega) fun v15 F15 H15 l15 S15 h15 =>
            ⟨F15, _, l10.le.trans l15.le, S15, _, _, q4 ++ [(d, p)], wt4 ++ [p'], _, rfl, Ens.up l15.le hk10, Paired.app (Els.up l15.le hw10) (.cons h15.h .nil), hI11, Nat.le_trans hm11 hm4, fun x hx => ?_, by
              have z1 : (wt4 ++ [p']).length ≤ rmu (q4 ++ [(d, p)]) (wt4 ++ [p']) := Nat.le_add_left _ _
              have z2 : rmu q rest ≤ rmu q (p :: rest) := by unfold rmu; rw [List.length_cons]; omega
              omega, hs4.mono _, rfl⟩))
          rw [hkq]
          rcases List.mem_append.mp hx with z | z
          · exact List.mem_append_left _ (hp4 x z)
          · exact List.mem_append_right _ z
    · rintro F4 own' σ' H7 R' l4 hsR hR S7 ⟨kvs4, ws4, q4, wt4, c4, rfl, hk4, hw4, hI4, hm4, hp4, hl4, hs4, rfl⟩
      have hIc := hI4.close hp4
      refine ⟨(q4, wt4), ?_, F4, kvs4, ws4, _, _, l3.trans l4.le, rfl, S7.sub (by simpa using hR), hk4, hw4, hIc, ?_⟩
      · show rmu q4 wt4 < rmu q (p :: rest)
        have : rmu q rest < rmu q (p :: rest) := by unfold rmu; rw [List.length_cons]; omega
        omega
      · have : rmu q rest ≤ rmu q (p :: rest) := by unfold rmu; rw [List.length_cons]; omega
        dsimp only
        omega
  · have hwt : wt = [] := by simpa using h
    subst hwt
    have S12 : Sta F3 ((d1, .dK kvs) :: (d2, .lst ws) :: cs) H4 := S4.perm (List.Perm.swap _ _ _)
    obtain ⟨F13, l13, S13, h13⟩ := frzD S12 hk
    refine wss_one (ws_ret (ge_tup2 (r := rD rI) (t := rO rI) (x := q) (y := none) (ge_v (n := 3) rfl rfl h13) ge_nonO) S13 fun v14 F14 H14 l14 S14 h14 => ?_)
    exact k _ v14 F14 H14 (l3'.tr (l13.tr l14)) (S14.drop) ⟨h14.h⟩ ⟨s0, rfl, hI.fin⟩
end
end K97

-- part K97w
/-! k97, doers: plain law -/
namespace K97
open DL
variable {A : List (List Int)} {D D0 q : Ds} {s : Int} {T : Int → Prop}
/-- behind n persons: who has no duty lies in a tight set T -/
structure DI (A : List (List Int)) (D : Ds) (n : Int) (T : Int → Prop) : Prop where
  deal : Deal A D
  pb : ∀ e ∈ D, e.2 < n
  cov : ∀ p, 0 ≤ p → p < n → (∃ e ∈ D, e.2 = p) ∨ T p
  tb : ∀ p, T p → 0 ≤ p ∧ p < n
  tight : ∀ p, T p → ∀ d ∈ rowAt A p, ∃ p', look D d = some p' ∧ T p'
theorem DI.init : DI A [] 0 (fun _ => False) := ⟨⟨List.nodup_nil, (fun _ z => by cases z), (fun _ z => by cases z)⟩, (fun _ z => by cases z), fun p h1 h2 => by omega, fun _ z => z.elim, fun _ z => z.elim⟩
theorem DI.fail {n : Int} (h : DI A D n T) (h0 : 0 ≤ n) (hr : Reach A D n q none) : DI A D (n + 1) (fun p => T p ∨ Src D n q p) := by
  refine ⟨h.deal, fun e he => by have := h.pb e he; omega, fun p h1 h2 => ?_, fun p hp => ?_, fun p hp d hd => ?_⟩
  · by_cases e : p = n
    · exact .inr (.inr (.inl e))
    · rcases h.cov p h1 (by omega) with z | z
      · exact .inl z
      · exact .inr (.inl z)
  · rcases hp with z | z | ⟨e, _, z⟩
    · have := h.tb p z; omega
    · omega
    · have := h.pb _ (look_mem z)
      have := (h.deal.ok _ (look_mem z)).1
      dsimp only at *
      omega
  · rcases hp with z | z
    · obtain ⟨p', h1, h2⟩ := h.tight p z d hd
      exact ⟨p', h1, .inl h2⟩
    · have hk := hr.2.2 p z d hd
      obtain ⟨p', hp'⟩ := Option.isSome_iff_exists.mp (hr.2.1 d hk)
      obtain ⟨e, he, ee⟩ := List.mem_map.mp hk
      exact ⟨p', hp', .inr (.inr ⟨e, he, by rw [ee]; exact hp'⟩)⟩
/-- a duty d is to be given on: q asked, D in the making from D0 -/
structure Aug (A : List (List Int)) (D0 : Ds) (s : Int) (q : Ds) (T : Int → Prop) (D : Ds) (i : Nat) (d : Int) : Prop where
  at_ : ∃ p, q[i]? = some (d, p)
  nd : (keys D).Nodup
  ok : ∀ e ∈ D, (0 ≤ e.2 ∧ e.2 < A.length) ∧ e.1 ∈ rowAt A e.2
  inj : ∀ e ∈ D, ∀ e' ∈ D, e.1 ≠ d → e'.1 ≠ d → e.2 = e'.2 → e = e'
  old : ∀ (j : Nat) (e : Int × Int), j ≤ i → q[j]? = some e → look D e.1 = look D0 e.1
  cov : ∀ e ∈ D0, ∃ e' ∈ D, e'.1 ≠ d ∧ e'.2 = e.2
  pb : ∀ e ∈ D, e.2 < s
  offT : ∀ p, T p → d ∉ rowAt A p
  keep : ∀ p, T p → ∀ k ∈ rowAt A p, look D k = look D0 k
theorem Aug.init (h : DI A D0 s T) (hq : Ask A D0 s q) {d : Int} (hd : d ∈ keys q) (hl : look D0 d = none) : ∃ i, Aug A D0 s q T D0 i d := by
  obtain ⟨e, he, rfl⟩ := List.mem_map.mp hd
  obtain ⟨i, hi⟩ := List.mem_iff_getElem?.mp he
  refine ⟨i, ⟨e.2, hi⟩, h.deal.nd, h.deal.ok, fun a ha b hb _ _ e => h.deal.inj a ha b hb e, fun _ _ _ _ => rfl, fun a ha => ⟨a, ha, fun z => ?_, rfl⟩, h.pb, fun p hp z => ?_, fun _ _ _ _ => rfl⟩
  · have := look_of_mem h.deal.nd (show (a.1, a.2) ∈ D0 from ha)
    rw [z, hl] at this
    cases this
  · obtain ⟨p', h1, _⟩ := h.tight p hp _ z
    rw [hl] at h1
    cases h1
theorem mem_put {D : Ds} {d p : Int} {e : Int × Int} (h : e ∈ put D d p) : e = (d, p) ∨ (e ∈ D ∧ e.1 ≠ d) := by
  unfold put at h
  split at h
  · obtain ⟨e', he', ee⟩ := List.mem_map.mp h
    by_cases z : e'.1 = d
    · rw [if_pos z] at ee
      exact .inl (by rw [← ee, z])
    · rw [if_neg z] at ee
      exact .inr ⟨ee ▸ he', ee ▸ z⟩
  · rename_i hk
    rcases List.mem_append.mp h with z | z
    · exact .inr ⟨z, fun e1 => hk (look_some.mpr (by rw [← e1]; exact List.mem_map.mpr ⟨e, z, rfl⟩))⟩
    · exact .inl (List.mem_singleton.mp z)
theorem put_mem {D : Ds} {d p : Int} {e : Int × Int} (h : e ∈ D) (hn : e.1 ≠ d) (nd : (keys D).Nodup) : e ∈ put D d p := by
  refine look_mem (k := e.1) (x := e.2) ?_
  rw [look_put, if_neg hn]
  exact look_of_mem nd h
theorem put_self {D : Ds} {d p : Int} : (d, p) ∈ put D d p := look_mem (by rw [look_put, if_pos rfl])
/-- those duties that p has -/
def mine (D : Ds) (p : Int) : List Int := (D.filter fun e => decide (e.2 = p)).map (·.1)
theorem mem_mine {D : Ds} {p k : Int} : k ∈ mine D p ↔ (k, p) ∈ D := by
  unfold mine
  rw [List.mem_map]
  constructor
  · rintro ⟨e, he, rfl⟩
    obtain ⟨h1, h2⟩ := List.mem_filter.mp he
    have := of_decide_eq_true h2
    rw [← this]; exact h1
  · exact fun h => ⟨(k, p), List.mem_filter.mpr ⟨h, decide_eq_true rfl⟩, rfl⟩
theorem Aug.d_not (h : Aug A D0 s q T D i d) (hD0 : Deal A D0) (hq : Ask A D0 s q) (hs : ∀ e ∈ D0, e.2 < s) {p : Int} (hi : q[i]? = some (d, p)) : look D0 d ≠ some p := by
  intro z
  rcases hq.src i _ hi with e | ⟨j, e', hj, h1, h2⟩
  · have := hs _ (look_mem z)
    dsimp only at *
    omega
  · have := hD0.inj _ (look_mem z) _ (look_mem h2) rfl
    have ed : d = e'.1 := congrArg Prod.fst this
    have m1 : (keys q)[i]? = some d := by unfold keys; rw [List.getElem?_map, hi]; rfl
    have m2 : (keys q)[j]? = some d := by unfold keys; rw [List.getElem?_map, h1, ed]; rfl
    have := (List.getElem?_inj (List.getElem?_eq_some_iff.mp m1).1 hq.nd).mp (m1.trans m2.symm)
    omega
theorem Aug.step (h : Aug A D0 s q T D i d) (hI : DI A D0 s T) (hq : Ask A D0 s q) {p : Int} (hi : q[i]? = some (d, p)) :
    (mine D p = [] ∧ p = s ∧ DI A (put D d p) (s + 1) T) ∨ (∃ d' ml j, mine D p = d' :: ml ∧ j < i ∧ Aug A D0 s q T (put D d p) j d') := by
  have hdn := h.d_not hI.deal hq hI.pb hi
  have hdl : look D d = look D0 d := h.old i _ (Nat.le_refl _) hi
  have hrow := hq.row _ (List.mem_of_getElem? hi)
  dsimp only at hrow
  have hmd : ∀ k ∈ mine D p, k ≠ d := fun k hk e => by
    have := look_of_mem h.nd (mem_mine.mp hk)
    rw [e, hdl] at this
    exact hdn this
  have keep1 : ∀ p', T p' → ∀ k ∈ rowAt A p', look (put D d p) k = look D0 k := fun p' hp' k hk => by
    rw [look_put, if_neg fun z => h.offT p' hp' (by rw [← z]; exact hk)]
    exact h.keep p' hp' k hk
  have ok1 : ∀ e ∈ put D d p, (0 ≤ e.2 ∧ e.2 < A.length) ∧ e.1 ∈ rowAt A e.2 := fun e he => by
    rcases mem_put he with z | ⟨z, _⟩
    · rw [z]; exact hrow
    · exact h.ok e z
  by_cases hps : p = s
  · left
    have hnil : mine D p = [] := by
      refine List.eq_nil_iff_forall_not_mem.mpr fun k hk => ?_
      have := h.pb _ (mem_mine.mp hk)
      dsimp only at this
      omega
    refine ⟨hnil, hps, ⟨keys_put_nd h.nd _ _, ok1, fun e he e' he' ee => ?_⟩, fun e he => ?_, fun p' h1 h2 => ?_, fun p' hp' => by have := hI.tb p' hp'; omega, fun p' hp' k hk => ?_⟩
    · rcases mem_put he with z | ⟨z, zn⟩ <;> rcases mem_put he' with z' | ⟨z', zn'⟩
      · rw [z, z']
      · have := h.pb _ z'; rw [z] at ee; dsimp only at ee; omega
      · have := h.pb _ z; rw [z'] at ee; dsimp only at ee; omega
      · exact h.inj e z e' z' zn zn' ee
    · rcases mem_put he with z | ⟨z, _⟩
      · rw [z]; show p < s + 1; omega
      · have := h.pb e z; omega
    · by_cases e : p' = s
      · exact .inl ⟨(d, p), put_self, by rw [e]; exact hps⟩
      · rcases hI.cov p' h1 (by omega) with ⟨e0, he0, e1⟩ | z
        · obtain ⟨e', he', hn, e2⟩ := h.cov e0 he0
          exact .inl ⟨e', put_mem he' hn h.nd, by rw [e2, e1]⟩
        · exact .inr z
    · obtain ⟨p'', h1, h2⟩ := hI.tight p' hp' k hk
      exact ⟨p'', by rw [keep1 p' hp' k hk]; exact h1, h2⟩
  · right
    obtain ⟨j, e', hj, hj1, hj2⟩ : ∃ (j : Nat) (e' : Int × Int), j < i ∧ q[j]? = some e' ∧ look D0 e'.1 = some p := by
      rcases hq.src i _ hi with z | z
      · exact absurd z hps
      · exact z
    have hl : look D e'.1 = some p := by rw [h.old j e' (Nat.le_of_lt hj) hj1]; exact hj2
    have hmem : e'.1 ∈ mine D p := mem_mine.mpr (look_mem hl)
    obtain ⟨d', ml, em⟩ : ∃ d' ml, mine D p = d' :: ml := by
      cases hm : mine D p with
      | nil => rw [hm] at hmem; cases hmem
      | cons a b => exact ⟨a, b, rfl⟩
    have hd'm : d' ∈ mine D p := by rw [em]; exact List.mem_cons_self
    have hd' : d' = e'.1 := congrArg Prod.fst (h.inj _ (mem_mine.mp hd'm) _ (look_mem hl) (hmd _ hd'm) (hmd _ hmem) rfl)
    have hd'd : d' ≠ d := hmd _ hd'm
    refine ⟨d', ml, j, em, hj, ⟨e'.2, by rw [hj1, hd']⟩, keys_put_nd h.nd _ _, ok1, fun a ha b hb na nb ee => ?_, fun j' e hj' he => ?_, fun e0 he0 => ?_, fun e he => ?_, fun p' hp' z => ?_, keep1⟩
    · have one : ∀ a b : Int × Int, a = (d, p) → b ∈ D → b.1 ≠ d → b.1 ≠ d' → a.2 = b.2 → False := fun a b z z' zn nb ee => by
        rw [z] at ee
        dsimp only at ee
        have : b.1 ∈ mine D p := mem_mine.mpr (by rw [ee]; exact z')
        have := h.inj _ (mem_mine.mp this) _ (mem_mine.mp hd'm) zn hd'd rfl
        exact nb (congrArg Prod.fst this)
      rcases mem_put ha with z | ⟨z, zn⟩ <;> rcases mem_put hb with z' | ⟨z', zn'⟩
      · rw [z, z']
      · exact (one a b z z' zn' nb ee).elim
      · exact (one b a z' z zn na ee.symm).elim
      · exact h.inj a z b z' zn zn' ee
    · have hne : e.1 ≠ d := fun z => by
        have m1 : (keys q)[i]? = some d := by unfold keys; rw [List.getElem?_map, hi]; rfl
        have m2 : (keys q)[j']? = some d := by unfold keys; rw [List.getElem?_map, he]; simp [z]
        have := (List.getElem?_inj (List.getElem?_eq_some_iff.mp m1).1 hq.nd).mp (m1.trans m2.symm)
        omega
      rw [look_put, if_neg hne]
      exact h.old j' e (by omega) he
    · obtain ⟨e1, he1, hn1, e2⟩ := h.cov e0 he0
      by_cases z : e1.1 = d'
      · refine ⟨(d, p), put_self, Ne.symm hd'd, ?_⟩
        have : look D d' = some e1.2 := by rw [← z]; exact look_of_mem h.nd he1
        rw [hd', hl] at this
        rw [← e2]
        exact Option.some.inj this
      · exact ⟨e1, put_mem he1 hn1 h.nd, z, e2⟩
    · rcases mem_put he with z | ⟨z, _⟩
      · rw [z]
        have := hI.pb _ (look_mem hj2)
        exact this
      · exact h.pb e z
    · rw [hd'] at z
      obtain ⟨p'', h1, h2⟩ := hI.tight p' hp' _ z
      rw [hj2] at h1
      cases h1
      exact h.offT p h2 hrow.2
end K97

-- part K97x
namespace DL
open PySem PySem.Spec PyProof.Rows L2
section
variable {X : Cx} {σ : Sl} {F : Hp} {cs : Cs} {H : Hp} {e tg : Expr} {pos : Pos} {α : Type} {r : Rep α} {D : Ends}
/-- target = e, e by what is known behind it -/
theorem ws_asgW {B : Hp → V → α → Sl → Sl → Prop} {is : List Nat} (hb : GB X tg r B is) (h : WE X e σ H fun v H1 => ∃ F1 cs1 x, Sta F1 cs1 H1 ∧ r F1 [] v x ∧ ∀ σ', B F1 v x σ σ' → D.nx σ' H1) (hs : swapsWithSole [tg] e pos.line X.env = pure false := by rfl) (hw : swappedStores [tg] e X.env = pure none := by rfl)
    (h1 : (assignEach [tg] X.env).map (·.2) = [assign tg X.env] := by rfl) : WS X (.Assign [tg] e pos) D σ H :=
  wsB (ps_asg peW pgW hs hw h1) (h.mono fun v H1 ⟨F1, cs1, x, S1, q, k⟩ => hb.run F1 cs1 H1 v x σ _ S1 q k)
end
end DL
namespace K97
open PySem PySem.Spec PyProof.Rows L2 DL
abbrev sDoers : Stmt := topS 37
theorem scDoers : FnScope ["able", "doer", "start", "asked_by", "duty", "person", "mine", "other", "who"] ["able"] (defScope sDoers) := ⟨rfl, rfl, rfl, by decide +kernel, rfl, by decide +kernel, by decide +kernel⟩
section
variable {P : Program} {w : World} {K : PySem.W.Frag} {mg : Str → Option Value} {base : Heap}
abbrev FDoers (P : Program) (w : World) (K : PySem.W.Frag) (mg : Str → Option Value) (base : Heap) : Prop := Fn P w K mg base 2 "doers_of" sDoers ["able"] (sp1 (fz (rL (rL rI))) (rD rI) Able (fun A D => ∃ T, DI A D A.length T))
theorem deal_len {A : List (List Int)} {D : Ds} (hA : Able A) (h : (keys D).Nodup) (ok : ∀ e ∈ D, (0 ≤ e.2 ∧ e.2 < A.length) ∧ e.1 ∈ rowAt A e.2) : D.length ≤ 60 := by
  rw [← keys_length]
  refine nodup_rng h (n := 60) fun x hx => ?_
  obtain ⟨e, he, rfl⟩ := List.mem_map.mp hx
  have := (hA.ok _ (rowAt_of (ok e he).1).2).bd _ (ok e he).2
  omega
theorem fn_doers {f : Addr} {fd : FuncData} (T : Txt3 mg) (cR : FReached P w K mg base) (hF : Fun K "doers_of" "doers_of" sDoers f fd) (hm : mg "doers_of" = some (.ref f)) (hb : Binds K fd ["able"] []) : FDoers P w K mg base := by
  refine fn_mk hF hm hb scDoers sp1_len fun cdv A outer s H vs Q E hr ⟨F, cs, v, B, e, S, hv, hA, k⟩ => ?_
  subst e
  have hBl := hA.le
  refine wss_cons (ws_setW scDoers.nd (n := 1) rfl (.inl rfl) (we_dnilC S fun d1 H1 S1 => ?_))
  refine wss_cons (ws_for (own := [(d1, .dK [])]) (R := cs) (fun pre F' own' σ' => ∃ kvs D T a b c d e g h, own' = [(d1, .dK kvs)] ∧ Ens rI F' kvs D ∧ DI B D pre.length T ∧ σ' = [some v, some (.ref d1), a, b, c, d, e, g, h]) PassesOwn.never rfl
    (gi_rng1 rfl T.range (ge_lenL rfl T.len (GE.un (ge_v (n := 0) rfl rfl hv))) (by omega) (by omega)) S1 (gb_i scDoers.nd (i := 2) rfl (.inl rfl)) rfl (fun pre F' own' σ' R' _ hR => Sub.nil _)
    (fun F2 l2 => ⟨[], [], _, _, _, _, _, _, _, _, rfl, .nil, DI.init, rfl⟩) ?_ ?_)
  · rintro pre x post F4 F5 own' σ' H5 v5 σ1 R' eG l4 l5 hsR hR S5 ⟨kvs, D, TT, a, b, c, d, e, g, h, rfl, hk, hI, rfl⟩ rfl
    obtain ⟨hlt, hx⟩ : pre.length < ((B.length : Int)).toNat ∧ x = 0 + (pre.length : Int) := rng_get (show (rng 0 ((B.length : Int)).toNat)[pre.length]? = some x by rw [eG, List.getElem?_append_right (Nat.le_refl _), Nat.sub_self]; rfl)
    have hxn : x = (pre.length : Int) := by omega
    subst hxn
    have hk5 := Ens.up l5.le hk
    have hsb : (0 : Int) ≤ (pre.length : Int) ∧ (pre.length : Int) < B.length := by omega
    have hdoer : Is (rD rI) F5 ([(d1, .dK kvs)] ++ R') (.ref d1) D := ⟨⟨d1, kvs, rfl, .inr (.inl List.mem_cons_self), hk5⟩⟩
    refine wss_cons (ws_asgW (gb_t2 rfl (gb_n (rD rI) scDoers.nd (i := 3) rfl (.inl rfl)) (gb_n (rO rI) scDoers.nd (i := 4) rfl (.inl rfl)))
      (we_call3 cR hr rfl (ge_v (n := 0) rfl rfl hv) (ge_v (n := 1) rfl rfl hdoer) (ge_lst (ga_cons (r := rI) (ge_vi (n := 2) rfl rfl) ga_nil) (by show 1 ≤ 1000; decide)) S5 ⟨hA, hI.deal, _, rfl, hsb⟩ fun y v6 F6 H6 l6 S6 h6 ⟨s0, e6, h7⟩ => ⟨F6, _, y, S6, h6.h, ?_⟩))
    rintro σ6 ⟨u1, u2, σ7, ⟨ha, rfl⟩, ⟨hd, rfl⟩⟩
    obtain rfl : (pre.length : Int) = s0 := by simpa using e6
    obtain ⟨q, res⟩ := y
    dsimp only at h7 ha hd
    have hq := h7.1
    have start : ∃ i, match res with
        | some d => Aug B D (pre.length : Int) q TT D i d
        | none => ∃ T', DI B D ((pre.length : Int) + 1) T' := by
      cases res with
      | some d0 => exact Aug.init hI hq h7.2.1 h7.2.2
      | none => exact ⟨0, _, hI.fail hsb.1 h7⟩
    obtain ⟨i0, hst⟩ := start
    refine wss_one (ws_while (ι := Ds × Nat × Option Int) (fun i σ H => ∃ F' kvs u a b c d, Le F6 F' ∧ σ = [some v, some (.ref d1), some (.int (pre.length : Int)), some u1, some u, a, b, c, d] ∧ Sta F' ((d1, .dK kvs) :: R') H ∧ Ens rI F' kvs i.1 ∧ Is (rO rI) F' [] u i.2.2 ∧
        match i.2.2 with
        | some d => Aug B D (pre.length : Int) q TT i.1 i.2.1 d
        | none => ∃ T', DI B i.1 ((pre.length : Int) + 1) T') (fun i => match i.2.2 with | some _ => i.2.1 + 1 | none => 0) (D, i0, res) PassesOwn.never
      ⟨F6, kvs, u2, _, _, _, _, Le.refl _, rfl, S6, Ens.up l6.le hk5, hd, hst⟩ ?_)
    rintro ⟨D', i', res'⟩ σ H8 ⟨F8, kvs8, u, a, b, c, d, l8, rfl, S8, hk8, hu, hst8⟩
    dsimp only at hk8 hu hst8
    have l8' := l8.one
    refine (gt_c (gc_notN (ge_v (n := 4) rfl rfl hu))).run S8 fun H9 S9 => ite2 (fun hh => ?_) (fun hh => ?_)
    · obtain ⟨dd, rfl⟩ := Option.isSome_iff_exists.mp hh
      dsimp only at hst8
      obtain rfl : u = .int dd := hu.h.2
      obtain ⟨p, hp⟩ := hst8.at_
      have hla : look q dd = some p := look_of_mem hq.nd (List.mem_of_getElem? hp)
      have hDl := deal_len hA hst8.nd hst8.ok
      refine wss_cons (ws_setI scDoers.nd (n := 5) rfl (.inr rfl) (ge_dget (r := rI) (hu1 hr) (ge_v (n := 3) rfl rfl ha) (ge_vi (n := 4) rfl rfl) hla) S9 fun H10 S10 => ?_)
      refine wss_cons (ws_lockD S10 fun od H11 S11 => ?_)
      have hz : Is (rDz rI) (upd F8 d1 (.dK kvs8)) ((d1, .frz od (.dK kvs8)) :: R') (.ref d1) D' := ⟨⟨d1, kvs8, rfl, .inr ⟨od, List.mem_cons_self⟩, Ens.up (S10.lockD od |>.1 |> fun hn => ⟨fun a o e => by
        have hne : a ≠ d1 := fun z => by rw [z, hn] at e; cases e
        rw [upd_ne hne]; exact e⟩) hk8⟩⟩
      refine ws_setLc (r := rT2 rI rI) (t := rI) (own := [("other", 7), ("who", 8)]) (fun e => decide (e.2 = p)) (fun e => e.1) rfl scDoers.nd (i := 6) rfl rfl (blkOk_by (by kernel_rfl))
        (gi_items (ge_v (n := 1) rfl rfl hz)) (Sub.nil _) (fun _ _ _ _ _ => gb_t2 rfl (gb_i scDoers.nd (i := 7) rfl (.inl rfl)) (gb_i scDoers.nd (i := 8) rfl (.inl rfl))) (by decide) ?_ ?_ (line60 (by omega)) S11 fun v12 F12 H12 l12 S12 h12 => ?_
      · rintro F7 v7 ⟨o1, o2⟩ σ7 l7 hx ⟨u1, u2, σ2, rfl, rfl⟩ s0 H0 C cl fp
        exact gts_one (gt_c (gc_eq (ge_vi (n := 8) rfl rfl) (ge_vi (n := 5) rfl rfl)))
      · rintro F7 v7 ⟨o1, o2⟩ σ7 l7 hx ⟨u1, u2, σ2, rfl, rfl⟩ _ s0 H0 C cl fp
        exact ge_vi (n := 7) rfl rfl
      · have hn := (S10.lockD od).1
        refine ⟨S12.has _ List.mem_cons_self, ?_⟩
        have S13 := S12.unlock
        have l13 : Le1 F8 (rmv F12 d1) := Le1.rmv hn l12
        have h13 : Is (fz (rL rI)) (rmv F12 d1) [] v12 (mine D' p) := Is.rmvL (show Is (fz (rL rI)) F12 _ v12 (mine D' p) from h12) (l12.h _ _ upd_same) (fun vs z => by cases z)
        have hk13 := Ens.up l13.le hk8
        refine wss_cons (ws_dput (r := rI) 0 (hu1 hr) (m := 1) rfl rfl S13 rfl (ge_vi (n := 5) rfl rfl) (ge_vi (n := 4) rfl rfl) (by rw [show kvs8.length = _ from Paired.length hk8, sizeLine_eq]; omega) fun v14 F14 H14 l14 S14 h14 => ?_)
        have S14 : Sta F14 ((d1, .dK (putK kvs8 (.inl dd) v14)) :: R') H14 := S14
        have hk14 : Ens rI F14 (putK kvs8 (.inl dd) v14) (put D' dd p) := (Ens.up l14.le hk13).put h14.h
        rcases hst8.step hI hq hp with ⟨em, ep, hfin⟩ | ⟨d', ml, j, em, hj, hag⟩
        · refine wss_one (ws_set (r := rO rI) (x := none) scDoers.nd (n := 4) rfl (.inl rfl) (ge_if (p := false) (gt_is (by rw [em]; rfl) (gt_c (gc_neD (r := rL rI) (hu64 hr) (by decide) (GE.un (ge_v (n := 6) rfl rfl h13)) (GE.un ge_nil)))) (fun z => nomatch z) (fun _ => ge_nonO)) S14 fun v15 F15 H15 l15 S15 h15 =>
            ⟨(put D' dd p, 0, none), Nat.succ_pos _, F15, _, v15, _, _, _, _, l8.trans (l13.le.trans (l14.le.trans l15.le)), rfl, S15, Ens.up l15.le hk14, ⟨h15.h⟩, TT, hfin⟩)
        · refine wss_one (ws_set (r := rO rI) (x := some d') scDoers.nd (n := 4) rfl (.inl rfl) (ge_if (p := true) (gt_is (by rw [em]; rfl) (gt_c (gc_neD (r := rL rI) (hu64 hr) (by decide) (GE.un (ge_v (n := 6) rfl rfl h13)) (GE.un ge_nil)))) (fun _ => ge_some (r := rI) (fun _ _ _ _ e z => by rw [z] at e; cases e) (ge_ixL (r := rI) (GE.un (ge_v (n := 6) rfl rfl h13)) ge_int (by rw [em]; exact atI_of (n := 0) rfl))) (fun z => nomatch z)) S14 fun v15 F15 H15 l15 S15 h15 =>
            ⟨(put D' dd p, j, some d'), Nat.succ_lt_succ hj, F15, _, v15, _, _, _, _, l8.trans (l13.le.trans (l14.le.trans l15.le)), rfl, S15, Ens.up l15.le hk14, ⟨h15.h⟩, hag⟩)
    · obtain rfl : res' = none := by
        cases res' with
        | none => rfl
        | some y => exact absurd rfl hh
      obtain ⟨T', hI'⟩ := hst8
      exact ⟨F8, [(d1, .dK kvs8)], l6.le.trans l8, S9, kvs8, D', T', _, _, _, _, _, _, _, rfl, hk8, by rw [List.length_append, List.length_singleton]; exact hI', rfl⟩
  · rintro F4 own' σ' H5 R' l4 hsR hR S5 ⟨kvs, D, TT, a, b, c, d, e, g, h, rfl, hk, hI, rfl⟩
    obtain ⟨F2, l2, S3, h3⟩ := frzD S5 hk
    exact wss_one (ws_retW (we_var (n := 1) rfl rfl (k _ _ F2 _ (l4.tr l2) (S3.sub hR) h3.fzn ⟨TT, by rw [rng_length] at hI; exact hI⟩)))
end
end K97

-- part DLm
/-! DL, thirteenth part: loops over what a call tells, cells out of comprehensions. -/
namespace DL
open PySem PySem.Spec PyProof.Rows L2
section
variable {X : Cx} {σ : Sl} {F F0 : Hp} {cs cs0 c0 : Cs} {H : Hp} {e a tg iter elt kx vx : Expr} {ifs : List Expr} {scope : Scope} {pos spos py : Pos} {α β γ : Type} {r : Rep α} {t : Rep β} {B : Hp → V → α → Sl → Sl → Prop} {is : List Nat} {own : List (Str × Nat)} {D : Ends} {i : Nat} {y : Str}
/-- name = [.. for ..], the list a new cell -/
theorem ws_setLcC {xs : List α} (p : α → Bool) (g : α → β) [s : Stable r] [z : Stable t] (hc : X.calm = true) (hN : X.N.Nodup) (hy : X.N[i]? = some y) (hyl : X.env.scope.names.lookup y = some .local) (ok : BlkOk X.N X.env.scope scope own) (hi : GIt X σ F cs c0 tg iter r xs) (hsub : Sub c0 cs)
    (hb : ∀ (s : Shared) (H0 : Hp) (C : Addr) (cl : List (Str × Addr)) (fp : List Addr), GB (X.blk s H0 scope (compEnvC scope cl C X.env) fp) tg r B is) (his : ∀ i ∈ is, i ∈ own.map (·.2))
    (ht : ∀ (F1 : Hp) (v : V) (x : α) (σ1 : Sl), Le1 F F1 → x ∈ xs → B F1 v x (wipe σ (own.map (·.2))) σ1 → ∀ (s : Shared) (H0 : Hp) (C : Addr) (cl : List (Str × Addr)) (fp : List Addr), GTs (X.blk s H0 scope (compEnvC scope cl C X.env) fp) σ1 F1 cs ifs (p x))
    (he : ∀ (F1 : Hp) (v : V) (x : α) (σ1 : Sl), Le1 F F1 → x ∈ xs → B F1 v x (wipe σ (own.map (·.2))) σ1 → p x = true → ∀ (s : Shared) (H0 : Hp) (C : Addr) (cl : List (Str × Addr)) (fp : List Addr), GE (X.blk s H0 scope (compEnvC scope cl C X.env) fp) σ1 F1 cs elt (fz t) (g x))
    (hz : xs.length ≤ sizeLine) (S : Sta F cs H) (k : ∀ d acc F2 H2, Le1 F F2 → Sta F2 ((d, .lst acc) :: cs) H2 → Els t F2 acc ((xs.filter p).map g) → D.nx (σ.set i (some (.ref d))) H2) (hs : ∀ x, foldedSetIterable iter X.env x = pure x := by intro _; rfl)
    (hsw : swapsWith (.ListComp elt [⟨tg, iter, ifs, 0⟩] scope pos) (some (.Name y py)) spos.line X.env = pure true := by exact sw_true rfl rfl rfl rfl) : WS X (.Assign [.Name y py] (.ListComp elt [⟨tg, iter, ifs, 0⟩] scope pos) spos) D σ H :=
  wsB (ps_setLc hc hN hy hyl hsw piW ok bpg bpt bpe hs) (tlc_core p g hi hsub hb his ht he hz (Le.refl _) (Sub.refl _) S fun D' acc F2 H2 l S2 q => k D' acc F2 H2 l.one S2 q)
/-- what a walk is over, known once the iterable is there -/
def GIw (X : Cx) (σ : Sl) (F : Hp) (cs : Cs) (H : Hp) (tg iter : Expr) (r : Rep α) (E : List α → Prop) : Prop :=
  WI X tg iter σ H fun J H2 => ∃ xs pre c1 F2, E xs ∧ Le F F2 ∧ Sta F2 (cs ++ pre) H2 ∧ Sub c1 (frzs cs ++ pre) ∧ Walks J F2 c1 r xs
theorem giw_items [s : Stable r] {E : List (Int × α) → Prop} {ap : Pos} {elts : List Expr} {kk : Nat} {tpos : Pos} (ha : WE X e σ H fun v H1 => ∃ F1 xs, Le F F1 ∧ Sta F1 cs H1 ∧ rDz r F1 cs v xs ∧ E xs) (hbase : attributeBase e "items" X.env (eval e X.env) = eval e X.env := by rfl) (hline : (ap.endLine == pos.line) = true := by rfl) :
    GIw X σ F cs H (.Tuple elts kk tpos) (.Call (.Attribute e "items" ap) [] [] pos) (rT2 rI r) E :=
  wiB (pi_items peW hbase hline) (WE.lock (ha.mono fun v H2 ⟨F2, xs, l2, S2, ⟨d, kvs, ev, hd, hp⟩, hE⟩ => by
    have fin : ∀ (o : Obj) (H3 : Hp) (pre : Cs), Sta F2 (cs ++ pre) H3 → (d, .frz o (.dK kvs)) ∈ cs ++ pre → ∃ d' o' kvs', v = .ref d' ∧ H3 d' = some (.frz o' (.dK kvs')) ∧ ∃ xs pre c1 F2, E xs ∧ Le F F2 ∧ Sta F2 (cs ++ pre) H3 ∧ Sub c1 (frzs cs ++ pre) ∧ Walks (Iti d' o' kvs') F2 c1 (rT2 rI r) xs := fun o H3 pre S3 hm => by
      refine ⟨d, o, kvs, ev, S3.has _ hm, ?_⟩
      refine ⟨xs, pre, [(d, .frz o (.dK kvs))], F2, hE, l2, S3, ⟨fun p hp => ?_⟩, fun F' cs' H' l3 u3 S4 n => ?_⟩
      · rw [List.mem_singleton.mp hp]
        rcases List.mem_append.mp hm with z | z
        · exact List.mem_append_left _ (mem_frzs z)
        · exact List.mem_append_right _ z
      · have hH := S4.has _ (u3.h _ List.mem_cons_self)
        have hlen : kvs.length = xs.length := Paired.length hp
        refine ⟨fun x hx => ?_, fun hn => ⟨hH, by omega⟩⟩
        obtain ⟨y, h1, h2⟩ := hp.get hx
        refine ⟨⟨hH, (List.getElem?_eq_some_iff.mp h1).1⟩, fun v H'' ⟨T, k', v', hk, ev, nT, eH⟩ => ?_⟩
        rw [h1] at hk
        cases hk
        exact ⟨_, (S4.new nT _).1.le, by rw [eH]; exact (S4.new nT _).2, T, _, _, ev, upd_same, rfl, s.up (l3.trans (S4.new nT _).1.le) (Sub.refl _) h2⟩
    obtain ⟨hh, hl⟩ := S2.lock (hd.imp id id)
    rcases hh with ⟨o, hh⟩ | hh
    · obtain ⟨pre, S3, hm⟩ := (hl o).1 hh
      exact ⟨d, .dK kvs, ev, .inl ⟨o, hh, fin o H2 pre S3 hm⟩⟩
    · exact ⟨d, .dK kvs, ev, .inr ⟨hh, True.intro, fun o => by
        obtain ⟨pre, S3, hm⟩ := (hl o).2 hh
        exact fin o _ pre S3 hm⟩⟩))
/-- for tg in iter, what it is over known by E alone -/
theorem ws_forW {own R : Cs} {E : List α → Prop} {body : List Stmt} (P : List α → List α → Hp → Cs → Sl → Prop) (hp : PassesOwn (model X.prog X.w) X.A X.env X.xe) (hc : X.calm = true)
    (hi : GIw X σ F (own ++ R) H tg iter r E) (hb : GB X tg r B is) (hown : frzs own = [])
    (h0 : ∀ xs F2, E xs → Le1 F F2 → P xs [] F2 own σ)
    (turn : ∀ xs pre x post F' F'' own' σ' H' v σ1 R', E xs → xs = pre ++ x :: post → Le1 F F' → Le1 F' F'' → Sub R R' → List.Sublist R R' → Sta F'' (own' ++ R') H' → P xs pre F' own' σ' → B F'' v x σ' σ1 →
      WSs X body { D with nx := fun σ2 H2 => ∃ F2 own2, Le F'' F2 ∧ Sta F2 (own2 ++ R') H2 ∧ P xs (pre ++ [x]) F2 own2 σ2, ct := fun σ2 H2 => ∃ F2 own2, Le F'' F2 ∧ Sta F2 (own2 ++ R') H2 ∧ P xs (pre ++ [x]) F2 own2 σ2, bk := D.nx } σ1 H')
    (done : ∀ xs F' own' σ' H' R', E xs → Le1 F F' → Sub R R' → List.Sublist R R' → Sta F' (own' ++ R') H' → P xs xs F' own' σ' → D.nx σ' H') (hs : ∀ x, foldedSetIterable iter X.env x = pure x := by intro _; rfl) : WS X (.For tg iter body [] pos) D σ H := by
  refine wsB (ps_for hp hc piW pgW pssW hs) (hi.mono fun J H2 ⟨xs, pre, c1, F2, hE, l2, S2, hsub, hw⟩ => ?_)
  have S2' : Sta F2 (own ++ (R ++ pre)) H2 := by rw [← List.append_assoc]; exact S2
  have hRR : Sub R (R ++ pre) := ⟨fun q hq => List.mem_append_left _ hq⟩
  have hRl : List.Sublist R (R ++ pre) := List.sublist_append_left _ _
  have hc1 : ∀ own', Sub c1 (own' ++ (R ++ pre)) := fun own' => hsub.trans ⟨fun q hqm => by
    rcases List.mem_append.mp hqm with h | h
    · unfold frzs at h hown
      rw [List.filter_append, hown, List.nil_append] at h
      exact List.mem_append_right _ (List.mem_append_left _ (List.mem_filter.mp h).1)
    · exact List.mem_append_right _ (List.mem_append_right _ h)⟩
  refine ⟨fun i m σ' H' => m = xs.length - i ∧ i ≤ xs.length ∧ ∃ F' own', Le F2 F' ∧ Sta F' (own' ++ (R ++ pre)) H' ∧ P xs (xs.take i) F' own' σ', ⟨xs.length, by omega, Nat.zero_le _, F2, own, Le.refl _, S2', h0 xs F2 hE l2.one⟩, ?_⟩
  rintro i m σ' H' ⟨rfl, hle, F', own', l3, S3, hq⟩
  have hwi := hw F' (own' ++ (R ++ pre)) H' l3 (hc1 _) S3 i
  by_cases hlt : i < xs.length
  · have hx : xs[i]? = some xs[i] := List.getElem?_eq_getElem hlt
    have hsp : xs = xs.take i ++ xs[i] :: xs.drop (i + 1) := by rw [← List.drop_eq_getElem_cons hlt, List.take_append_drop]
    generalize xs[i] = x at hx hsp
    obtain ⟨hgo, hyld⟩ := hwi.1 x hx
    refine .inr ⟨hgo, fun σ2 H'' => ∃ F2' own2, Le F2 F2' ∧ Sta F2' (own2 ++ (R ++ pre)) H'' ∧ P xs (xs.take (i + 1)) F2' own2 σ2, fun σ2 H'' q => ⟨xs.length - (i + 1), by omega, rfl, hlt, q⟩, fun v H'' hy => ?_⟩
    obtain ⟨F3, l4, S4, hr⟩ := hyld v H'' hy
    refine hb.run F3 _ H'' v x σ' _ S4 hr fun σ1 b1 => ?_
    have body := turn xs _ x _ F' F3 own' σ' H'' v σ1 (R ++ pre) hE hsp (l2.trans l3).one l4.one hRR hRl S4 hq b1
    rw [← take_succ_get hx] at body
    refine body.mono ?_ ?_ ?_ ?_
    · rintro σ2 H3 ⟨F4, own2, l5, S5, q5⟩
      exact ⟨F4, own2, l3.trans (l4.trans l5), S5, q5⟩
    · exact fun _ _ q => q
    · exact fun _ _ q => q
    · rintro σ2 H3 ⟨F4, own2, l5, S5, q5⟩
      exact ⟨F4, own2, l3.trans (l4.trans l5), S5, q5⟩
  · have ei : i = xs.length := by omega
    subst ei
    rw [List.take_length] at hq
    exact .inl ⟨hwi.2 (Nat.le_refl _), done xs F' own' σ' H' _ hE (l2.trans l3).one hRR hRl S3 hq⟩
end
end DL

-- part K97y
/-! k97, deals: plain law -/
namespace K97
open DL
variable {A : List (List Int)} {D : Ds} {n : Int} {T : Int → Prop}
def doneF (D : Ds) (f : List (Option Int)) : List (Option Int) := D.foldl (fun f e => f.set e.2.toNat (some e.1)) f
def doneM (n : Nat) (D : Ds) : List (Option Int) := doneF D (List.replicate n none)
theorem doneF_len : ∀ (D : Ds) (f : List (Option Int)), (doneF D f).length = f.length
  | [], f => rfl
  | e :: D, f => by show (doneF D (f.set e.2.toNat (some e.1))).length = _; rw [doneF_len D, List.length_set]
theorem done_out : ∀ (D : Ds) (f : List (Option Int)) (k : Nat), (∀ e ∈ D, e.2.toNat ≠ k) → (doneF D f)[k]? = f[k]?
  | [], f, k, _ => rfl
  | e :: D, f, k, h => by
    show (doneF D (f.set e.2.toNat (some e.1)))[k]? = _
    rw [done_out D _ k fun e' he' => h e' (List.mem_cons_of_mem _ he'), List.getElem?_set_ne (h e List.mem_cons_self)]
theorem done_in : ∀ (D : Ds) (f : List (Option Int)), (D.map fun e => e.2.toNat).Nodup → ∀ e ∈ D, e.2.toNat < f.length → (doneF D f)[e.2.toNat]? = some (some e.1)
  | [], _, _, _, h, _ => nomatch h
  | e0 :: D, f, nd, e, he, hl => by
    rw [List.map_cons, List.nodup_cons] at nd
    show (doneF D (f.set e0.2.toNat (some e0.1)))[e.2.toNat]? = _
    rcases List.mem_cons.mp he with rfl | he
    · rw [done_out D _ _ fun e' he' z => nd.1 (by rw [← z]; exact List.mem_map.mpr ⟨e', he', rfl⟩), List.getElem?_set_self hl]
    · exact done_in D _ nd.2 e he (by rw [List.length_set]; exact hl)
theorem Deal.nd2 (h : Deal A D) : (D.map fun e => e.2.toNat).Nodup := by
  have nd : D.Nodup := (List.pairwise_map.mp h.nd).imp fun {a b} hne e => hne (by rw [e])
  refine List.pairwise_map.mpr (nd.imp_of_mem fun {a b} ha hb hne e => hne (h.inj a ha b hb ?_))
  have := (h.ok a ha).1
  have := (h.ok b hb).1
  omega
theorem done_at (h : Deal A D) {k : Nat} {d : Int} (hk : (doneM A.length D)[k]? = some (some d)) : (d, (k : Int)) ∈ D := by
  unfold doneM at hk
  by_cases hx : ∃ e ∈ D, e.2.toNat = k
  · obtain ⟨e, he, rfl⟩ := hx
    have hb := (h.ok e he).1
    rw [done_in D _ h.nd2 e he (by rw [List.length_replicate]; omega)] at hk
    have : e.1 = d := Option.some.inj (Option.some.inj hk)
    rw [← this, show ((e.2.toNat : Nat) : Int) = e.2 by omega]
    exact he
  · rw [done_out D _ k fun e he z => hx ⟨e, he, z⟩] at hk
    have hlt := (List.getElem?_eq_some_iff.mp hk).1
    rw [List.getElem?_eq_getElem hlt] at hk
    simp at hk
theorem done_of (h : Deal A D) {e : Int × Int} (he : e ∈ D) : (doneM A.length D)[e.2.toNat]? = some (some e.1) :=
  done_in D _ h.nd2 e he (by rw [List.length_replicate]; have := (h.ok e he).1; omega)
def somes (y : List (Option Int)) : List Int := (y.filter fun o => o.isSome).map fun o => o.getD 0
theorem mem_somes {y : List (Option Int)} {d : Int} : d ∈ somes y ↔ ∃ k : Nat, y[k]? = some (some d) := by
  unfold somes
  rw [List.mem_map]
  constructor
  · rintro ⟨o, ho, rfl⟩
    obtain ⟨h1, h2⟩ := List.mem_filter.mp ho
    obtain ⟨x, rfl⟩ := Option.isSome_iff_exists.mp h2
    exact List.mem_iff_getElem?.mp h1
  · rintro ⟨k, hk⟩
    exact ⟨some d, List.mem_filter.mpr ⟨List.mem_of_getElem? hk, rfl⟩, rfl⟩
theorem somes_nd {y : List (Option Int)} (h : ∀ (i j : Nat) (d : Int), y[i]? = some (some d) → y[j]? = some (some d) → i = j) : (somes y).Nodup := by
  unfold somes
  have hp : y.Pairwise fun a b => ∀ d, a = some d → b = some d → False := List.pairwise_iff_getElem.mpr fun i j hi hj hij d e1 e2 => by
    have := h i j d (by rw [List.getElem?_eq_getElem hi, e1]) (by rw [List.getElem?_eq_getElem hj, e2])
    omega
  refine List.pairwise_map.mpr ((hp.filter _).imp_of_mem fun {a b} ha hb hne e => ?_)
  obtain ⟨x, rfl⟩ := Option.isSome_iff_exists.mp (List.mem_filter.mp ha).2
  obtain ⟨z, rfl⟩ := Option.isSome_iff_exists.mp (List.mem_filter.mp hb).2
  simp only [Option.getD_some] at e
  exact hne x rfl (by rw [e])
theorem done_nd (h : Deal A D) : (somes (doneM A.length D)).Nodup := somes_nd fun i j d hi hj => by
  have h1 := look_of_mem h.nd (done_at h hi)
  have h2 := look_of_mem h.nd (done_at h hj)
  rw [h1] at h2
  have := Option.some.inj h2
  omega
theorem done_count (h : Deal A D) : (somes (doneM A.length D)).length = D.length := by
  rw [← keys_length]
  refine Nat.le_antisymm (nodup_len (done_nd h) fun x hx => ?_) (nodup_len h.nd fun x hx => ?_)
  · obtain ⟨k, hk⟩ := mem_somes.mp hx
    exact List.mem_map.mpr ⟨_, done_at h hk, rfl⟩
  · obtain ⟨e, he, rfl⟩ := List.mem_map.mp hx
    exact mem_somes.mpr ⟨_, done_of h he⟩
/-! ### counting -/
theorem inj_len {L L' : List Int} (f : Int → Int) (nd : L.Nodup) (hf : ∀ x ∈ L, f x ∈ L') (inj : ∀ x ∈ L, ∀ y ∈ L, f x = f y → x = y) : L.length ≤ L'.length := by
  have : (L.map f).Nodup := List.pairwise_map.mpr (nd.imp_of_mem fun {a b} ha hb hne e => hne (inj a ha b hb e))
  have h := nodup_len this (l' := L') fun x hx => by
    obtain ⟨y, hy, rfl⟩ := List.mem_map.mp hx
    exact hf y hy
  rwa [List.length_map] at h
theorem rowAt_nat {k : Nat} {r : List Int} (h : A[k]? = some r) : rowAt A k = r := by
  unfold rowAt
  rw [Int.toNat_natCast, h]; rfl
/-- each can have a duty of his own: all have one -/
theorem all_done (h : DI A D A.length T) {R : List Int} (hl : R.length = A.length) (hR : ∀ (k : Nat) (d : Int), R[k]? = some d → d ∈ rowAt A k) (nd : R.Nodup) : ∀ p : Int, 0 ≤ p → p < A.length → ∃ e ∈ D, e.2 = p := by
  intro u hu0 hu1
  refine Classical.byContradiction fun hno => ?_
  have hTu : T u := by
    rcases h.cov u hu0 hu1 with z | z
    · exact absurd z hno
    · exact z
  obtain ⟨L, ndL, memL⟩ := filt_ex A.length T
  have huL : u ∈ L := (memL u).mpr ⟨⟨hu0, hu1⟩, hTu⟩
  let φ : Int → Int := fun p => (R[p.toNat]?).getD 0
  have hφ : ∀ p ∈ L, R[p.toNat]? = some (φ p) ∧ φ p ∈ rowAt A p := fun p hp => by
    obtain ⟨⟨h0, h1⟩, _⟩ := (memL p).mp hp
    have hlt : p.toNat < R.length := by omega
    have e : R[p.toNat]? = some (φ p) := by show R[p.toNat]? = some ((R[p.toNat]?).getD 0); rw [List.getElem?_eq_getElem hlt]; rfl
    refine ⟨e, ?_⟩
    have := hR _ _ e
    rwa [show ((p.toNat : Nat) : Int) = p by omega] at this
  have hψ : ∀ p ∈ L, ∃ p', look D (φ p) = some p' ∧ T p' := fun p hp => h.tight p ((memL p).mp hp).2 _ (hφ p hp).2
  let ψ : Int → Int := fun p => (look D (φ p)).getD 0
  have hψ2 : ∀ p ∈ L, look D (φ p) = some (ψ p) ∧ T (ψ p) := fun p hp => by
    obtain ⟨p', h1, h2⟩ := hψ p hp
    have : ψ p = p' := by show (look D (φ p)).getD 0 = p'; rw [h1]; rfl
    rw [this]; exact ⟨h1, h2⟩
  have key := inj_len (L := L) (L' := L.erase u) ψ ndL (fun p hp => ?_) (fun p hp p' hp' e => ?_)
  · rw [List.length_erase_of_mem huL] at key
    have : 0 < L.length := List.length_pos_of_mem huL
    omega
  · obtain ⟨h1, h2⟩ := hψ2 p hp
    have hm := look_mem h1
    have hb := (h.deal.ok _ hm).1
    refine (List.mem_erase_of_ne fun e => ?_).mpr ((memL _).mpr ⟨hb, h2⟩)
    exact hno ⟨_, hm, e⟩
  · obtain ⟨h1, _⟩ := hψ2 p hp
    obtain ⟨h2, _⟩ := hψ2 p' hp'
    have h3 := h.deal.inj _ (look_mem h1) _ (look_mem h2) e
    have h4 : φ p = φ p' := congrArg Prod.fst h3
    have e1 := (hφ p hp).1
    have e2 := (hφ p' hp').1
    rw [h4] at e1
    have := (List.getElem?_inj (List.getElem?_eq_some_iff.mp e1).1 nd).mp (e1.trans e2.symm)
    have := (memL p).mp hp
    have := (memL p').mp hp'
    omega
/-- each of m duties can have a person of its own: each has one -/
theorem all_given (h : DI A D A.length T) {m : Nat} (hrow : ∀ p d, d ∈ rowAt A p → 0 ≤ d ∧ d < m) {R : List Int} (hl : R.length = m) (hR : ∀ (k : Nat) (p : Int), R[k]? = some p → (0 ≤ p ∧ p < A.length) ∧ (k : Int) ∈ rowAt A p) (nd : R.Nodup) : ∀ d : Int, 0 ≤ d → d < m → d ∈ keys D := by
  intro d0 hd0 hd1
  refine Classical.byContradiction fun hno => ?_
  obtain ⟨L, ndL, memL⟩ := filt_ex m fun d => ∀ p, T p → d ∉ rowAt A p
  have hdL : d0 ∈ L := (memL d0).mpr ⟨⟨hd0, hd1⟩, fun p hp z => by
    obtain ⟨p', h1, _⟩ := h.tight p hp _ z
    exact hno (look_some.mp (by rw [h1]; rfl))⟩
  let φ : Int → Int := fun d => (R[d.toNat]?).getD 0
  have hφ : ∀ d ∈ L, R[d.toNat]? = some (φ d) ∧ (0 ≤ φ d ∧ φ d < A.length) ∧ d ∈ rowAt A (φ d) := fun d hd => by
    obtain ⟨⟨h0, h1⟩, _⟩ := (memL d).mp hd
    have hlt : d.toNat < R.length := by omega
    have e : R[d.toNat]? = some (φ d) := by show R[d.toNat]? = some ((R[d.toNat]?).getD 0); rw [List.getElem?_eq_getElem hlt]; rfl
    have := hR _ _ e
    rw [show ((d.toNat : Nat) : Int) = d by omega] at this
    exact ⟨e, this⟩
  have hψ : ∀ d ∈ L, ∃ e ∈ D, e.2 = φ d := fun d hd => by
    rcases h.cov (φ d) (hφ d hd).2.1.1 (hφ d hd).2.1.2 with z | z
    · exact z
    · exact absurd (hφ d hd).2.2 (((memL d).mp hd).2 _ z)
  have hψ' : ∀ d, ∃ k, d ∈ L → (k, φ d) ∈ D := fun d => by
    by_cases hd : d ∈ L
    · obtain ⟨e, he, ee⟩ := hψ d hd
      exact ⟨e.1, fun _ => by rw [← ee]; exact he⟩
    · exact ⟨0, fun z => absurd z hd⟩
  have key := inj_len (L := L) (L' := L.erase d0) (fun d => (hψ' d).choose) ndL (fun d hd => ?_) (fun d hd d' hd' e => ?_)
  · rw [List.length_erase_of_mem hdL] at key
    have : 0 < L.length := List.length_pos_of_mem hdL
    omega
  · have hm := (hψ' d).choose_spec hd
    have hk : (hψ' d).choose ∈ keys D := List.mem_map.mpr ⟨_, hm, rfl⟩
    refine (List.mem_erase_of_ne fun e => ?_).mpr ((memL _).mpr ⟨?_, fun p hp z => ?_⟩)
    · rw [e] at hk; exact hno hk
    · exact hrow _ _ (h.deal.ok _ hm).2
    · obtain ⟨p', h1, h2⟩ := h.tight p hp _ z
      have h3 := look_of_mem h.deal.nd hm
      rw [h3] at h1
      have := Option.some.inj h1
      rw [← this] at h2
      exact ((memL d).mp hd).2 _ h2 (hφ d hd).2.2
  · have h1 := look_of_mem h.deal.nd ((hψ' d).choose_spec hd)
    have h2 := look_of_mem h.deal.nd ((hψ' d').choose_spec hd')
    rw [show (hψ' d).choose = (hψ' d').choose from e, h2] at h1
    have e1 := (hφ d hd).1
    have e2 := (hφ d' hd').1
    rw [Option.some.inj h1] at e2
    have := (List.getElem?_inj (List.getElem?_eq_some_iff.mp e1).1 nd).mp (e1.trans e2.symm)
    have := (memL d).mp hd
    have := (memL d').mp hd'
    omega
end K97

-- part K97z
namespace K97
open PySem PySem.Spec PyProof.Rows L2 DL
abbrev sMostDone : Stmt := topS 38
abbrev sIsDone : Stmt := topS 39
abbrev sLacking : Stmt := topS 40
theorem scMostDone : FnScope ["able", "found", "duty", "person"] ["able"] (defScope sMostDone) := ⟨rfl, rfl, rfl, by decide +kernel, rfl, by decide +kernel, by decide +kernel⟩
theorem scIsDone : FnScope ["able", "value", "duties", "duty"] ["able", "value"] (defScope sIsDone) := ⟨rfl, rfl, rfl, by decide +kernel, rfl, by decide +kernel, by decide +kernel⟩
section
variable {P : Program} {w : World} {K : PySem.W.Frag} {mg : Str → Option Value} {base : Heap}
abbrev FMostDone (P : Program) (w : World) (K : PySem.W.Frag) (mg : Str → Option Value) (base : Heap) : Prop := Fn P w K mg base 6 "most_done" sMostDone ["able"] (sp1 (fz (rL (rL rI))) (rL (rO rI)) Able (fun A y => ∃ D T, DI A D A.length T ∧ y = doneM A.length D))
theorem fn_most_done {f : Addr} {fd : FuncData} (T : Txt3 mg) (cC : FCheckAble P w K mg base) (cD : FDoers P w K mg base) (hF : Fun K "most_done" "most_done" sMostDone f fd) (hm : mg "most_done" = some (.ref f)) (hb : Binds K fd ["able"] []) : FMostDone P w K mg base := by
  refine fn_mk hF hm hb scMostDone sp1_len fun cdv A outer s H vs Q E hr ⟨F, cs, v, B, e, S, hv, hA, k⟩ => ?_
  subst e
  have hBl := hA.le
  refine wss_cons (ws_expr (we_call1 cC hr rfl (ge_v (n := 0) rfl rfl hv) S hA fun _ _ F1 H1 l1 S1 _ _ => ?_))
  refine wss_cons (ws_setLcC (r := rL rI) (t := rO rI) (own := [("person", 3)]) (fun _ => true) (fun _ => none) rfl scMostDone.nd (i := 1) rfl rfl (blkOk_by (by kernel_rfl)) (gi_list (ge_v (n := 0) rfl rfl hv)) (Sub.nil _) (fun _ _ _ _ _ => gb_n (rL rI) scMostDone.nd (i := 3) rfl (.inl rfl)) (by decide)
    (fun F1 v x σ1 l hx hb s H0 C cl fp => gts_nil) ?_ (line60 (by omega)) S1 fun d acc F2 H2 l2 S2 h2 => ?_)
  · rintro F7 v7 g σ7 l7 hx ⟨h7, rfl⟩ _ s0 H0 C cl fp
    exact ge_nonO
  rw [List.filter_eq_self.mpr fun _ _ => rfl] at h2
  rw [List.map_const'] at h2
  refine wss_cons (ws_forW (r := rT2 rI rI) (own := [(d, .lst acc)]) (R := cs) (E := fun D => ∃ T, DI B D B.length T) (fun D pre F' own' σ' => ∃ ws a b, own' = [(d, .lst ws)] ∧ Els (rO rI) F' ws (doneF pre (List.replicate B.length none)) ∧ σ' = [some v, some (.ref d), a, b]) PassesOwn.never rfl
    (giw_items (we_call1 cD hr rfl (ge_v (n := 0) rfl rfl hv) S2 hA fun y v3 F3 H3 l3 S3 h3 hE => ⟨F3, y, l3.le, S3, ?_, hE⟩)) (gb_t2 rfl (gb_i scMostDone.nd (i := 2) rfl (.inl rfl)) (gb_i scMostDone.nd (i := 3) rfl (.inl rfl))) rfl
    (fun D F4 hE l4 => ⟨acc, _, _, rfl, Els.up l4.le h2, rfl⟩) ?_ ?_)
  · obtain ⟨a, kvs, ev, hd, hp⟩ := h3.h
    refine ⟨a, kvs, ev, ?_, hp⟩
    rcases hd with z | z | ⟨_, z⟩
    · exact .inl z
    · cases z
    · cases z
  · rintro D pre ⟨du, p⟩ post F4 F5 own' σ' H5 v5 σ1 R' ⟨TT, hI⟩ eG l4 l5 hsR hR S5 ⟨ws, a, b, rfl, hk, rfl⟩ ⟨u1, u2, σ2, rfl, rfl⟩
    have hb := (hI.deal.ok (du, p) (by rw [eG]; exact List.mem_append_right _ List.mem_cons_self)).1
    dsimp only at hb
    have hwl : ws.length = B.length := by rw [show ws.length = _ from Paired.length hk, doneF_len, List.length_replicate]
    have hix : ixN ws.length p = some p.toNat := by unfold ixN; rw [if_pos hb.1, if_pos (by omega)]
    refine wss_one (ws_setItem (r := rO rI) (x := some du) 0 (m := 1) rfl rfl S5 rfl (ge_some (r := rI) (fun _ _ _ _ e z => by rw [z] at e; cases e) (ge_vi (n := 2) rfl rfl)) (ge_vi (n := 3) rfl rfl) hix fun v6 F6 H6 l6 S6 h6 => ⟨F6, _, l6.le, S6, _, _, _, rfl, ?_, rfl⟩)
    rw [show doneF (pre ++ [(du, p)]) (List.replicate B.length none) = (doneF pre (List.replicate B.length none)).set p.toNat (some du) by unfold doneF; rw [List.foldl_append]; rfl]
    exact Els.set' (Els.up (l5.le.trans l6.le) hk) h6.h
  · rintro D F4 own' σ' H5 R' ⟨TT, hI⟩ l4 hsR hR S5 ⟨ws, a, b, rfl, hk, rfl⟩
    obtain ⟨F6, l6, S6, h6⟩ := frzL S5 hk
    exact wss_one (ws_retW (we_var (n := 1) rfl rfl (k _ _ F6 _ (l1.tr (l2.tr (l4.tr l6))) (S6.sub hR) h6.fzn ⟨D, TT, hI, rfl⟩)))
end
end K97

-- part K98a
namespace K97
open PySem PySem.Spec PyProof.Rows L2 DL
theorem scLacking : FnScope ["able", "wanted", "doer", "undone", "found", "waiting", "duty", "person", "mine", "duties", "at", "other", "who"] ["able", "wanted"] (defScope sLacking) := ⟨rfl, rfl, rfl, by decide +kernel, rfl, by decide +kernel, by decide +kernel⟩
section
variable {P : Program} {w : World} {K : PySem.W.Frag} {mg : Str → Option Value} {base : Heap}
abbrev FIsDone (P : Program) (w : World) (K : PySem.W.Frag) (mg : Str → Option Value) (base : Heap) : Prop := Fn P w K mg base 6 "is_done" sIsDone ["able", "value"] (sp2 (fz (rL (rL rI))) (fz (rL (rO rI))) rB (fun A y => Able A ∧ y.length = A.length ∧ (∀ (k : Nat) (d : Int), y[k]? = some (some d) → d ∈ rowAt A k) ∧ (somes y).Nodup) (fun _ _ b => b = true))
theorem fn_is_done {f : Addr} {fd : FuncData} (T : Txt3 mg) (cC : FCheckAble P w K mg base) (cL : FListed (rO rI) P w K mg base) (cF : FFromTo P w K mg base) (cU : FUnlike P w K mg base) (hF : Fun K "is_done" "is_done" sIsDone f fd) (hm : mg "is_done" = some (.ref f)) (hb : Binds K fd ["able", "value"] []) : FIsDone P w K mg base := by
  refine fn_mk hF hm hb scIsDone sp2_len fun cdv A outer s H vs Q E hr ⟨F, cs, v, B, v2, y, e, S, hv, hv2, ⟨hA, hl, hy, hnd⟩, k⟩ => ?_
  subst e
  have hBl := hA.le
  refine wss_cons (ws_expr (we_call1 cC hr rfl (ge_v (n := 0) rfl rfl hv) S hA fun _ _ F1 H1 l1 S1 _ _ => ?_))
  refine wss_cons (ws_ifF (GW.to (gw_or (p := false) (q := false) (gt_not (p := true) (gt_of (ge_call1u cL hr rfl (GE.asQ (GE.un (ge_v (n := 1) rfl rfl hv2))) True.intro fun _ h => h))) fun _ =>
    gw_or1 (gt_is (by rw [hl]; simp) (gt_c (gc_ne (ge_lenL rfl T.len (GE.un (ge_v (n := 1) rfl rfl hv2))) (ge_lenL rfl T.len (GE.un (ge_v (n := 0) rfl rfl hv)))))))) S1 fun H2 S2 => wss_nil ?_)
  refine wss_cons (ws_for (own := []) (R := cs) (fun pre F' own' σ' => own' = [] ∧ ∃ b c, σ' = [some v, some v2, b, c]) PassesOwn.never rfl
    (gi_zip rfl T.zip (ge_v (n := 0) rfl rfl hv) (ge_v (n := 1) rfl rfl hv2)) S2 (gb_t2 rfl (gb_n (rL rI) scIsDone.nd (i := 2) rfl (.inl rfl)) (gb_n (rO rI) scIsDone.nd (i := 3) rfl (.inl rfl))) rfl (fun pre F' own' σ' R' _ hR => Sub.nil _)
    (fun F5 l5 => ⟨rfl, _, _, rfl⟩) ?_ ?_)
  · rintro pre ⟨g, o⟩ post F5 F6 own' σ' H7 v7 σ1 R' eG l5 l6 hsR hR S7 ⟨rfl, b, c, rfl⟩ ⟨u1, u2, σ2, ⟨hg, rfl⟩, ⟨ho, rfl⟩⟩
    have hxm : (g, o) ∈ B.zip y := by rw [eG]; exact List.mem_append_right _ List.mem_cons_self
    obtain ⟨k0, hk0⟩ := List.mem_iff_getElem?.mp hxm
    obtain ⟨hg0, hy0⟩ := List.getElem?_zip_eq_some.mp hk0
    have hRow := hA.ok g (List.mem_of_getElem? hg0)
    dsimp only at hg ho
    refine wss_one (ws_ifF ?_ S7 fun H8 S8 => wss_nil ⟨F6, [], Le.refl _, S8, rfl, _, _, rfl⟩)
    cases o with
    | none => exact GW.to (gw_and (p := false) (q := false) (gt_c (gc_notN (ge_v (n := 3) rfl rfl ho))) fun z => nomatch z)
    | some d =>
      obtain rfl : u2 = .int d := ho.h.2
      have hdm : d ∈ g := by have := hy k0 d hy0; rwa [rowAt_nat hg0] at this
      have hbd := hRow.bd d hdm
      refine GW.to (gw_and (p := true) (q := false) (gt_c (gc_notN (ge_v (n := 3) rfl rfl ho))) fun _ => gw_and1 (GW.to (gw_or (p := false) (q := false) (gt_not (p := true) (gt_of (ge_call3u cF hr rfl (ge_vi (n := 3) rfl rfl) ge_int (ge_sub (ge_gi rfl T.md) ge_int) True.intro fun _ h => by rw [h, decide_eq_true hbd.1, decide_eq_true (by omega)]; rfl))) fun _ =>
        gw_or1 (gt_is (by rw [decide_eq_true hdm]; rfl) (gt_c (gc_ninL (ge_vi (n := 3) rfl rfl) (GE.asQ (ge_v (n := 2) rfl rfl hg))))))))
  · rintro F5 own' σ' H7 R' l5 hsR hR S7 ⟨rfl, b, c, rfl⟩
    have hyl : y.length ≤ 60 := by omega
    refine wss_one (ws_retB (p := true) (ge_call1u cU hr rfl (GE.un (ge_lc (r := rO rI) (t := rI) (own := [("duty", 3)]) (fun o => o.isSome) (fun o => o.getD 0) rfl scIsDone.nd (blkOk_by (by kernel_rfl))
      (gi_list (ge_v (n := 1) rfl rfl hv2)) (Sub.nil _) (fun _ _ _ _ _ => gb_n (rO rI) scIsDone.nd (i := 3) rfl (.inl rfl)) (by decide) ?_ ?_ (line60 (by omega)))) ⟨hnd, ?_⟩ fun _ h => h) S7 fun H9 S9 => k true _ F5 H9 (l1.tr l5) (S9.sub hR) ⟨rfl⟩ rfl)
    · rintro F7 v7 o σ7 l7 ho ⟨h7, rfl⟩ s0 H0 C cl fp
      exact gts_one (gt_c (gc_notN (ge_v (n := 3) rfl rfl h7)))
    · rintro F7 v7 o σ7 l7 ho ⟨h7, rfl⟩ hs s0 H0 C cl fp
      obtain ⟨w7, rfl⟩ := Option.isSome_iff_exists.mp hs
      exact ge_v (n := 3) rfl rfl (show Is (fz rI) F7 [] v7 w7 from ⟨h7.h.2⟩)
    · rw [List.length_map]
      exact Nat.le_trans (List.length_filter_le _ _) (by omega)
end
end K97

-- part K98b
namespace K97
open PySem PySem.Spec PyProof.Rows L2 DL
/-- m duties, each can have a person of its own -/
def Lack (A : List (List Int)) (W : List Int) : Prop := Able A ∧ Row W ∧ ∃ m : Nat, W = rng 0 m ∧ (∀ p d, d ∈ rowAt A p → 0 ≤ d ∧ d < m) ∧ ∃ R : List Int, R.length = m ∧ (∀ (k : Nat) (p : Int), R[k]? = some p → (0 ≤ p ∧ p < A.length) ∧ (k : Int) ∈ rowAt A p) ∧ R.Nodup
theorem rowAt_mem {A : List (List Int)} {r : List Int} (h : r ∈ A) : ∃ p : Int, rowAt A p = r := by
  obtain ⟨k, hk⟩ := List.mem_iff_getElem?.mp h
  exact ⟨k, rowAt_nat hk⟩
section
variable {P : Program} {w : World} {K : PySem.W.Frag} {mg : Str → Option Value} {base : Heap}
abbrev FLacking (P : Program) (w : World) (K : PySem.W.Frag) (mg : Str → Option Value) (base : Heap) : Prop := Fn P w K mg base 6 "lacking" sLacking ["able", "wanted"] (sp2 (fz (rL (rL rI))) (fz (rL rI)) (rO rI) Lack (fun _ _ y => y = none))
theorem fn_lacking {f : Addr} {fd : FuncData} (T : Txt3 mg) (cC : FCheckAble P w K mg base) (cA : FAreDuties P w K mg base) (cD : FDoers P w K mg base) (hF : Fun K "lacking" "lacking" sLacking f fd) (hm : mg "lacking" = some (.ref f)) (hb : Binds K fd ["able", "wanted"] []) : FLacking P w K mg base := by
  refine fn_mk hF hm hb scLacking sp2_len fun cdv A outer s H vs Q E hr ⟨F, cs, v, B, v2, W, e, S, hv, hv2, ⟨hA, hW, m, eW, hrow, R, hRl, hR, hRn⟩, k⟩ => ?_
  subst e
  have hBl := hA.le
  have hWl := hW.len
  refine wss_cons (ws_expr (we_call1 cC hr rfl (ge_v (n := 0) rfl rfl hv) S hA fun _ _ F1 H1 l1 S1 _ _ => ?_))
  refine wss_cons (ws_ifF (gt_not (p := true) (gt_of (ge_call1u cA hr rfl (GE.asQ (GE.un (ge_v (n := 1) rfl rfl hv2))) hW fun _ h => h))) S1 fun H2 S2 => wss_nil ?_)
  have hid : B.map (fun r => r.filter fun d => decide (d ∈ W)) = B := by
    have : B.map (fun r => r.filter fun d => decide (d ∈ W)) = B.map id := List.map_congr_left fun r hr => by
      refine List.filter_eq_self.mpr fun d hd => decide_eq_true ?_
      obtain ⟨p, hp⟩ := rowAt_mem hr
      have := hrow p d (by rw [hp]; exact hd)
      rw [eW, mem_rng]; omega
    rw [this, List.map_id]
  refine wss_cons (ws_setW scLacking.nd (n := 2) rfl (.inr rfl) (we_call1 cD hr rfl (ge_is hid (ge_lc0 (r := rL rI) (t := rL rI) (own := [("duties", 9)]) (fun r => r.filter fun d => decide (d ∈ W)) rfl scLacking.nd (blkOk_by (by kernel_rfl)) (gi_list (ge_v (n := 0) rfl rfl hv)) (Sub.nil _) (fun _ _ _ _ _ => gb_n (rL rI) scLacking.nd (i := 9) rfl (.inl rfl)) (by decide) ?_ (line60 (by omega)))) S2 hA fun y v3 F3 H3 l3 S3 h3 hE => ?_))
  · rintro F7 v7 r σ7 l7 hx ⟨h7, rfl⟩ s0 H0 C cl fp
    have hrl := (hA.ok r hx).len
    rw [show r.filter (fun d => decide (d ∈ W)) = (r.filter fun d => decide (d ∈ W)).map (fun d => d) by rw [List.map_id']]
    refine ge_lc (r := rI) (t := rI) (own := [("duty", 6)]) (fun d => decide (d ∈ W)) (fun d => d) rfl scLacking.nd (blkOk_by (by kernel_rfl)) (gi_list (ge_v (n := 9) rfl rfl (show Is (fz (rL rI)) F7 [] v7 r from ⟨h7.h⟩))) (Sub.nil _) (fun _ _ _ _ _ => gb_i scLacking.nd (i := 6) rfl (.inl rfl)) (by decide) ?_ ?_ (line60 (by omega))
    · rintro F8 v8 d σ8 l8 hd rfl s1 H1 C1 cl1 fp1
      exact gts_one (gt_c (gc_inL (ge_vi (n := 6) rfl rfl) (GE.asQ (GE.un (ge_v (n := 1) rfl rfl hv2)))))
    · rintro F8 v8 d σ8 l8 hd rfl _ s1 H1 C1 cl1 fp1
      exact ge_vi (n := 6) rfl rfl
  obtain ⟨TT, hI⟩ := hE
  have h3' : Is (fz (rD rI)) F3 cs v3 y := ⟨h3.h⟩
  have hnil : (W.filter fun d => !(look y d).isSome).map (fun d => d) = [] := by
    rw [List.map_id']
    refine List.filter_eq_nil_iff.mpr fun d hd => ?_
    rw [eW, mem_rng] at hd
    have := all_given hI hrow hRl hR hRn d hd.1 (by omega)
    rw [look_some.mpr this]; simp
  refine wss_cons (ws_setLc (r := rI) (t := rI) (own := [("duty", 6)]) (fun d => !(look y d).isSome) (fun d => d) rfl scLacking.nd (i := 3) rfl rfl (blkOk_by (by kernel_rfl)) (gi_list (ge_v (n := 1) rfl rfl hv2)) (Sub.nil _) (fun _ _ _ _ _ => gb_i scLacking.nd (i := 6) rfl (.inl rfl)) (by decide) ?_ ?_ (line60 (by omega)) S3 fun v8 F8 H8 l8 S8 h8 => ?_)
  · rintro F7 v7 d σ7 l7 hx rfl s0 H0 C cl fp
    exact gts_one (gt_c (gc_ninD (hu1 hr) (ge_vi (n := 6) rfl rfl) (GE.un (ge_v (n := 2) rfl rfl h3'))))
  · rintro F7 v7 d σ7 l7 hx rfl _ s0 H0 C cl fp
    exact ge_vi (n := 6) rfl rfl
  rw [hnil] at h8
  refine wss_cons (ws_ifT (gt_c (gc_eqD (r := rL rI) (x := []) (y := []) (hu64 hr) (by decide) (GE.un (ge_v (n := 3) rfl rfl h8)) (GE.un ge_nil))) S8 fun H9 S9 => wss_one (ws_ret (r := rO rI) ge_nonO S9 fun v10 F10 H10 l10 S10 h10 => k none v10 F10 H10 (l1.tr (l3.tr (l8.tr l10))) S10 ⟨h10.h⟩ rfl))
end
end K97

-- part DLn
/-! DL, fourteenth part: expressions with effects; the script; list(range), len(set). -/
namespace DL
open PySem PySem.Spec PyProof.Rows L2
section
variable {X : Cx} {σ : Sl} {F F0 : Hp} {cs cs0 : Cs} {H : Hp} {e a b c tg : Expr} {pos : Pos} {α β γ : Type} {r : Rep α} {t : Rep β} {x : α} {y : β} {i j : Int} {p q : Bool} {D : Ends} {Q : VK} {B : Hp → V → α → Sl → Sl → Prop} {is : List Nat}
theorem rgV_rng (n : Int) : rgV 0 n = (rng 0 n.toNat).map V.int := by
  unfold rgV rng
  rw [List.map_map, Int.sub_zero]
  rfl
theorem ge_listRg {p2 pp : Pos} {pos2 : Pos} (hc : X.calm = true) (hg : Gl X "list") (hm : X.mg "list" = none) (hg2 : Gl X "range") (hm2 : X.mg "range" = none) (ha : GE X σ F cs a rI i) (h0 : 0 ≤ i) (h1 : i ≤ 16777216)
    (na : starEach [a] X.env = (false, eval a X.env) :: starEach [] X.env := by rfl) (na2 : starEach [.Call (.Name "range" pp) [a] [] pos2] X.env = (false, eval (.Call (.Name "range" pp) [a] [] pos2) X.env) :: starEach [] X.env := by rfl) :
    GE X σ F cs (.Call (.Name "list" p2) [.Call (.Name "range" pp) [a] [] pos2] [] pos) (fz (rL rI)) (rng 0 i.toNat) := fun F1 cs1 H Q l1 u1 S q =>
  weB (pe_listRg hc hg hm (prg_1 hg2 hm2 peW na) na2) (ha F1 cs1 H _ l1 u1 S fun v F2 H2 l2 S2 e => ⟨i, e, RgOk.of_le (Int.le_refl _) h1 (by omega) h0, fun d hd => q _ _ _ (l2.trans (S2.new hd _).1.le) (S2.new hd _).2 ⟨d, _, rfl, .inl upd_same, by rw [rgV_rng]; exact Els.ofInts _⟩⟩)
/-! ### the script -/
theorem ge_lenK {pp : Pos} {xs : List α} (hg : Gl X "len") (hm : X.mg "len" = none) (ha : GE X σ F cs a (rK r) xs)
    (he : starEach [a] X.env = (false, eval a X.env) :: starEach [] X.env := by rfl) (hpl : (backTo pos (starEach [] X.env)).any (·.1) = false := by rfl) : GE X σ F cs (.Call (.Name "len" pp) [a] [] pos) rI (xs.length : Int) :=
  ge_b1 call_len_seq hg hm PySem.boot_len ha (fun F2 cs1 H2 v Q l u S ⟨w, vs, o, e, h, hp⟩ q => ⟨w, vs, by rw [e], .inl (S.sqK h), q _ F2 H2 (Le.refl _) S (by show V.int _ = _; rw [hp.len])⟩) (he := he) (hpl := hpl)
theorem ge_ixK {xs : List α} (ha : GE X σ F cs a (rK r) xs) (hb : GE X σ F cs b rI i) (hx : atI xs i = some x) [s : Stable r] (hs : PlainIx b := by first | exact fun _ _ => rfl) : GE X σ F cs (.Subscript a b pos) (fz r) x := fun F1 cs1 H Q l1 u1 S q =>
  weB (pe_ix ix_list peW peW hs) (ha F1 cs1 H _ l1 u1 S fun v F2 H2 l2 S2 ⟨w, vs, o, e, h, hp⟩ => hb F2 cs1 H2 _ (l1.trans l2) u1 S2 fun v2 F3 H3 l3 S3 e2 => by
    obtain ⟨y, h1, h2⟩ := atI_rel hp hx
    exact ⟨w, vs, i, y, e, e2, S3.sqK (l3.h _ _ h), h1, q y F3 H3 (l2.trans l3) S3 (s.up l3 (Sub.refl _) h2)⟩)
theorem ge_slHiK {p2 : Pos} {xs : List α} (ha : GE X σ F cs a (rK r) xs) (hb : GE X σ F cs b rI i) [s : Stable r] : GE X σ F cs (.Subscript a (.Slice none (some b) none p2) pos) (fz (rL r)) (cut xs none (some i)) := fun F1 cs1 H Q l1 u1 S q =>
  weB (pe_slice sl_list peW po_none (po_some peW)) (ha F1 cs1 H _ l1 u1 S fun v F2 H2 l2 S2 ⟨w, vs, o, e, h, hp⟩ => hb F2 cs1 H2 _ (l1.trans l2) u1 S2 fun v2 F3 H3 l3 S3 e2 => ⟨i, e2, w, vs, e, S3.sqK (l3.h _ _ h), fun d hd =>
    q _ _ _ (l2.trans (l3.trans (S3.new hd _).1.le)) (S3.new hd _).2 ⟨d, _, rfl, .inl upd_same, Els.up (l3.trans (S3.new hd _).1.le) (cut_rel hp _ _)⟩⟩)
/-- an item of a list in a cell, the items of any kinds -/
theorem ge_ixC {n : Nat} {z : Str} {w : Addr} {vs : List V} {v' : V} {p2 : Pos} (hN : X.N[n]? = some z) (hσ : σ[n]? = some (some (.ref w))) (hm : (w, .lst vs) ∈ cs) (hb : GE X σ F cs b rI i) (hx : atI vs i = some v') (hr : ∀ F cs, r F cs v' x) (hs : PlainIx b := by first | exact fun _ _ => rfl)
    (hv : Vis X.env.scope z := by first | exact Or.inl rfl | exact Or.inr (Or.inl rfl) | exact Or.inr (Or.inr rfl)) (hd : (z == ("__debug__" : Str)) = false := by decide) (hcd : (z == ("__classdict__" : Str)) = false := by decide) : GE X σ F cs (.Subscript (.Name z p2) b pos) r x := fun F1 cs1 H Q l1 u1 S q =>
  weB (pe_ix ix_list (pe_var hN hv hd hcd) peW hs) ⟨_, hσ, hb F1 cs1 H _ l1 u1 S fun v2 F3 H3 l3 S3 e2 => ⟨w, vs, i, v', rfl, e2, S3.sqL (.inr (u1.h _ hm)), hx, q v' F3 H3 l3 S3 (hr _ _)⟩⟩
theorem ge_lenSet {pp p2 p3 : Pos} {ns : List Int} (hg : Gl X "len") (hm : X.mg "len" = none) (hg2 : Gl X "set") (hm2 : X.mg "set" = none) (ha : GE X σ F cs a (rL rI) ns) (hnd : ns.Nodup) (hl : ns.length ≤ 4000) (hc : X.calm = true := by rfl)
    (na : starEach [a] X.env = (false, eval a X.env) :: starEach [] X.env := by rfl) : GE X σ F cs (.Call (.Name "len" pp) [.Call (.Name "set" p2) [a] [] p3] [] pos) rI (ns.length : Int) := fun F1 cs1 H Q l1 u1 S q =>
  weB (RZ.pe_lenSetI hg hm hg2 hm2 peW hc na) (ha F1 cs1 H _ l1 u1 S fun v F2 H2 l2 S2 ⟨w, vs, e, h, hp⟩ => ⟨w, ns, e, by rw [← Els.ints hp]; exact S2.sqL h, hnd, hl, q _ F2 H2 l2 S2 rfl⟩)
/-! ### with effects -/
theorem we_op2 {ho : R2} {op : Operator} (h : OpR X (binaryOp op) ho) (ha : WE X a σ H fun v H1 => WE X b σ H1 fun w H2 => ho v w H2 Q) : WE X (.BinOp a op b pos) σ H Q := weB (pe_op h peW peW) ha
theorem we_add (ha : WE X a σ H fun v H1 => ∃ i, v = .int i ∧ WE X b σ H1 fun w H2 => ∃ j, w = .int j ∧ Q (.int (i + j)) H2) : WE X (.BinOp a .Add b pos) σ H Q :=
  we_op2 op_add (ha.mono fun v H1 ⟨i, e1, q⟩ => q.mono fun w H2 ⟨j, e2, q⟩ => ⟨i, j, e1, e2, q⟩)
theorem we_sorted {pp : Pos} (hg : Gl X "sorted") (hm : X.mg "sorted" = none) (ha : WE X a σ H fun v H1 => ∃ F1 cs1 ns, Sta F1 cs1 H1 ∧ rL rI F1 cs1 v ns ∧ ∀ v2 F2 H2, Le1 F1 F2 → Sta F2 cs1 H2 → Is (fz (rL rI)) F2 cs1 v2 (srt ns) → Q v2 H2)
    (he : starEach [a] X.env = (false, eval a X.env) :: starEach [] X.env := by rfl) (hpl : (backTo pos (starEach [] X.env)).any (·.1) = false := by rfl) : WE X (.Call (.Name "sorted" pp) [a] [] pos) σ H Q :=
  weB (pe_callB cr_sortedI hg hm boot_sorted (pa_cons peW pa_nil he) (by decide) (by decide) he hpl) (ha.mono fun v H1 ⟨F1, cs1, ns, S1, ⟨w, vs, ev, h, hp⟩, k⟩ => ⟨w, ns, by rw [ev], by rw [← hp.ints]; exact S1.sqL h, fun ns' d h1 h2 hd => by
    rw [srt_eq h1 h2]
    exact k _ _ _ (S1.new hd _).1 (S1.new hd _).2 ⟨d, _, rfl, .inl upd_same, Els.ofInts _⟩⟩)
theorem we_slHi {p2 : Pos} [s : Stable r] (ha : WE X a σ H fun v H1 => WE X b σ H1 fun v2 H2 => ∃ F2 cs2 xs i, v2 = .int i ∧ Sta F2 cs2 H2 ∧ rL r F2 cs2 v xs ∧ ∀ v3 F3 H3, Le1 F2 F3 → Sta F3 cs2 H3 → Is (fz (rL r)) F3 cs2 v3 (cut xs none (some i)) → Q v3 H3) :
    WE X (.Subscript a (.Slice none (some b) none p2) pos) σ H Q :=
  weB (pe_slice sl_list peW po_none (po_some peW)) (ha.mono fun v H1 q => q.mono fun v2 H2 ⟨F2, cs2, xs, i, e2, S2, ⟨w, vs, ev, h, hp⟩, k⟩ => ⟨i, e2, w, vs, ev, S2.sqL h, fun d hd => k _ _ _ (S2.new hd _).1 (S2.new hd _).2 ⟨d, _, rfl, .inl upd_same, Els.up (S2.new hd _).1.le (cut_rel hp _ _)⟩⟩)
theorem we_if (h : WT X c σ H fun b' H1 => if b' = true then WE X a σ H1 Q else WE X b σ H1 Q) : WE X (.IfExp c a b pos) σ H Q := weB (pe_ifExp ptW peW peW) h
variable {R : Bool → Hp → Prop}
theorem wt_eq (ha : WE X a σ H fun v H1 => ∃ i, v = .int i ∧ WE X b σ H1 fun w H2 => ∃ j, w = .int j ∧ R (decide (i = j)) H2) (hm : behindInMarks .Eq b = false := by first | exact nomark _ | rfl) : WT X (.Compare a [.Eq] [b] pos) σ H R :=
  wtB (pt_cmp pcW hm) (wcB (pc_op op_eq peW peW) (ha.mono fun v H1 ⟨i, e1, q⟩ => q.mono fun w H2 ⟨j, e2, q⟩ => by
    rw [e1, e2]
    exact ⟨rfl, by rw [int_eq]; exact ⟨_, rfl, q⟩⟩))
theorem ww_and1 (h : WT X a σ H R) : WW X (.BoolOp .And [a] pos) σ H R := wwB (pw_and1 ptW) h
theorem ww_or1 (h : WT X a σ H R) : WW X (.BoolOp .Or [a] pos) σ H R := wwB (pw_or1 ptW) h
theorem ww_and {rest : List Expr} (h : WT X a σ H fun p H1 => if p = true then WW X (.BoolOp .And (b :: rest) pos) σ H1 R else R false H1) : WW X (.BoolOp .And (a :: b :: rest) pos) σ H R := wwB (pw_and ptW pwW) h
theorem ww_or {rest : List Expr} (h : WT X a σ H fun p H1 => if p = true then R true H1 else WW X (.BoolOp .Or (b :: rest) pos) σ H1 R) : WW X (.BoolOp .Or (a :: b :: rest) pos) σ H R := wwB (pw_or ptW pwW) h
theorem WW.to (h : WW X e σ H R) : WT X e σ H R := wtB (PW.pt pwW) h
theorem wt_not (h : WT X a σ H fun p H1 => R (!p) H1) : WT X (.UnaryOp .Not a pos) σ H R := wtB (pt_not ptW) h
theorem GT.wt {H : Hp} (h : GT X σ F cs e p) (S : Sta F cs H) (k : ∀ H2, Sta F cs H2 → R p H2) : WT X e σ H R := h.run S k
/-! ### for, the iterable with effects -/
/-- what a walk is over, known once the iterable is there; one's own cells may have changed -/
def GIx (X : Cx) (σ : Sl) (F : Hp) (R : Cs) (H : Hp) (tg iter : Expr) (r : Rep α) (E : List α → Cs → Prop) : Prop :=
  WI X tg iter σ H fun J H2 => ∃ xs own pre c1 F2, E xs own ∧ frzs own = [] ∧ Le F F2 ∧ Sta F2 (own ++ (R ++ pre)) H2 ∧ Sub c1 (frzs R ++ pre) ∧ Walks J F2 c1 r xs
theorem gix_rng1 {pp : Pos} {R : Cs} {E : List Int → Cs → Prop} (hg : Gl X "range") (hm : X.mg "range" = none) (ha : WE X a σ H fun v H1 => ∃ F1 own j, v = .int j ∧ -(2 ^ 62) ≤ j ∧ j < 2 ^ 62 ∧ Le F F1 ∧ Sta F1 (own ++ R) H1 ∧ frzs own = [] ∧ E (rng 0 j.toNat) own) (hs : starEach [a] X.env = [(false, eval a X.env)] := by rfl) :
    GIx X σ F R H tg (.Call (.Name "range" pp) [a] [] pos) rI E :=
  wiB (pi_range1 hg hm (pa_cons peW pa_nil hs) hs) (ha.mono fun v H1 ⟨F1, own, j, ev, h1, h2, l1, S1, ho, hE⟩ => ⟨j, by rw [ev], h1, h2, _, own, [], [], F1, hE, ho, l1, by rw [List.append_nil]; exact S1, Sub.nil _, walks_rng⟩)
theorem ws_forX {R : Cs} {E : List α → Cs → Prop} {iter : Expr} {body : List Stmt} (P : List α → List α → Hp → Cs → Sl → Prop) (hp : PassesOwn (model X.prog X.w) X.A X.env X.xe) (hc : X.calm = true)
    (hi : GIx X σ F R H tg iter r E) (hb : GB X tg r B is)
    (h0 : ∀ xs own F2, E xs own → Le1 F F2 → P xs [] F2 own σ)
    (turn : ∀ xs pre x post F' F'' own' σ' H' v σ1 R', xs = pre ++ x :: post → Le1 F F' → Le1 F' F'' → Sub R R' → List.Sublist R R' → Sta F'' (own' ++ R') H' → P xs pre F' own' σ' → B F'' v x σ' σ1 →
      WSs X body { D with nx := fun σ2 H2 => ∃ F2 own2, Le F'' F2 ∧ Sta F2 (own2 ++ R') H2 ∧ P xs (pre ++ [x]) F2 own2 σ2, ct := fun σ2 H2 => ∃ F2 own2, Le F'' F2 ∧ Sta F2 (own2 ++ R') H2 ∧ P xs (pre ++ [x]) F2 own2 σ2, bk := D.nx } σ1 H')
    (done : ∀ xs F' own' σ' H' R', Le1 F F' → Sub R R' → List.Sublist R R' → Sta F' (own' ++ R') H' → P xs xs F' own' σ' → D.nx σ' H') (hs : ∀ x, foldedSetIterable iter X.env x = pure x := by intro _; rfl) : WS X (.For tg iter body [] pos) D σ H := by
  refine wsB (ps_for hp hc piW pgW pssW hs) (hi.mono fun J H2 ⟨xs, own, pre, c1, F2, hE, hown, l2, S2', hsub, hw⟩ => ?_)
  have hRR : Sub R (R ++ pre) := ⟨fun q hq => List.mem_append_left _ hq⟩
  have hRl : List.Sublist R (R ++ pre) := List.sublist_append_left _ _
  have hc1 : ∀ own', Sub c1 (own' ++ (R ++ pre)) := fun own' => hsub.trans ⟨fun q hqm => by
    rcases List.mem_append.mp hqm with h | h
    · exact List.mem_append_right _ (List.mem_append_left _ (List.mem_filter.mp h).1)
    · exact List.mem_append_right _ (List.mem_append_right _ h)⟩
  refine ⟨fun i m σ' H' => m = xs.length - i ∧ i ≤ xs.length ∧ ∃ F' own', Le F2 F' ∧ Sta F' (own' ++ (R ++ pre)) H' ∧ P xs (xs.take i) F' own' σ', ⟨xs.length, by omega, Nat.zero_le _, F2, own, Le.refl _, S2', h0 xs own F2 hE l2.one⟩, ?_⟩
  rintro i m σ' H' ⟨rfl, hle, F', own', l3, S3, hq⟩
  have hwi := hw F' (own' ++ (R ++ pre)) H' l3 (hc1 _) S3 i
  by_cases hlt : i < xs.length
  · have hx : xs[i]? = some xs[i] := List.getElem?_eq_getElem hlt
    have hsp : xs = xs.take i ++ xs[i] :: xs.drop (i + 1) := by rw [← List.drop_eq_getElem_cons hlt, List.take_append_drop]
    generalize xs[i] = x at hx hsp
    obtain ⟨hgo, hyld⟩ := hwi.1 x hx
    refine .inr ⟨hgo, fun σ2 H'' => ∃ F2' own2, Le F2 F2' ∧ Sta F2' (own2 ++ (R ++ pre)) H'' ∧ P xs (xs.take (i + 1)) F2' own2 σ2, fun σ2 H'' q => ⟨xs.length - (i + 1), by omega, rfl, hlt, q⟩, fun v H'' hy => ?_⟩
    obtain ⟨F3, l4, S4, hr⟩ := hyld v H'' hy
    refine hb.run F3 _ H'' v x σ' _ S4 hr fun σ1 b1 => ?_
    have body := turn xs _ x _ F' F3 own' σ' H'' v σ1 (R ++ pre) hsp (l2.trans l3).one l4.one hRR hRl S4 hq b1
    rw [← take_succ_get hx] at body
    refine body.mono ?_ ?_ ?_ ?_
    · rintro σ2 H3 ⟨F4, own2, l5, S5, q5⟩
      exact ⟨F4, own2, l3.trans (l4.trans l5), S5, q5⟩
    · exact fun _ _ q => q
    · exact fun _ _ q => q
    · rintro σ2 H3 ⟨F4, own2, l5, S5, q5⟩
      exact ⟨F4, own2, l3.trans (l4.trans l5), S5, q5⟩
  · have ei : i = xs.length := by omega
    subst ei
    rw [List.take_length] at hq
    exact .inl ⟨hwi.2 (Nat.le_refl _), done xs F' own' σ' H' _ (l2.trans l3).one hRR hRl S3 hq⟩
end
end DL

-- part K98c
namespace K97
open PySem PySem.Spec PyProof.Rows L2 DL
structure Txt4 (mg : Str → Option Value) : Prop extends Txt3 mg where
  sum : mg "sum" = none
  min : mg "min" = none
  max : mg "max" = none
  set : mg "set" = none
  dict : mg "dict" = none
abbrev sCell : Stmt := topS 42
abbrev sBox : Stmt := topS 43
abbrev sTake : Stmt := topS 44
abbrev sMixed : Stmt := topS 45
theorem scCell : FnScope ["script", "k"] ["script", "k"] (defScope sCell) := ⟨rfl, rfl, rfl, by decide +kernel, rfl, by decide +kernel, by decide +kernel⟩
theorem scBox : FnScope ["great"] ["great"] (defScope sBox) := ⟨rfl, rfl, rfl, by decide +kernel, rfl, by decide +kernel, by decide +kernel⟩
theorem scTake : FnScope ["box", "many", "digit", "mixed"] ["box", "many"] (defScope sTake) := ⟨rfl, rfl, rfl, by decide +kernel, rfl, by decide +kernel, by decide +kernel⟩
theorem scMixed : FnScope ["box", "items", "left", "found"] ["box", "items"] (defScope sMixed) := ⟨rfl, rfl, rfl, by decide +kernel, rfl, by decide +kernel, by decide +kernel⟩
/-- the law's box -/
structure Bx where
  a : Int
  b : Bool
  c : Int
  n : Int
def Bx.vs (x : Bx) : List V := [.int x.a, .bl x.b, .int x.c, .int x.n]
structure BxOk (x : Bx) (m : Int) : Prop where
  c0 : 0 ≤ x.c
  c1 : x.c < 2147483629
  n0 : 0 ≤ x.n
  n1 : x.n ≤ m
section
variable {P : Program} {w : World} {K : PySem.W.Frag} {mg : Str → Option Value} {base : Heap}
abbrev FCell (P : Program) (w : World) (K : PySem.W.Frag) (mg : Str → Option Value) (base : Heap) : Prop := Fn P w K mg base 1 "_law_cell" sCell ["script", "k"] (sp2 (rK rI) rI rI (fun ns k => 0 ≤ k ∧ k ≤ 10) (fun _ _ _ => True))
theorem fn_cell {f : Addr} {fd : FuncData} (T : Txt4 mg) (hF : Fun K "_law_cell" "_law_cell" sCell f fd) (hm : mg "_law_cell" = some (.ref f)) (hb : Binds K fd ["script", "k"] []) : FCell P w K mg base := by
  refine fn_mk hF hm hb scCell sp2_len fun cdv A outer s H vs Q E hr ⟨F, cs, v, ns, v2, kk, e, S, hv, ⟨hv2⟩, ⟨h0, h10⟩, k⟩ => ?_
  subst e
  obtain rfl : v2 = .int kk := hv2
  refine wss_one (ws_ret (r := rI) (x := if decide (kk < ns.length) = true then ns.getD kk.toNat 0 else 6163 * kk + (cut ns none (some 1)).sum % 1000033) (ge_ite (gt_c (gc_lt (ge_vi (n := 1) rfl rfl) (ge_lenK rfl T.len (ge_v (n := 0) rfl rfl hv))))
    (fun hlt => ge_ixK (r := rI) (ge_v (n := 0) rfl rfl hv) (ge_vi (n := 1) rfl rfl) ?_)
    (fun _ => ge_add (ge_mul ge_int (ge_vi (n := 1) rfl rfl) (.inl ⟨by decide, by decide⟩)) (ge_mod (ge_intI rfl T.int (ge_sum rfl rfl T.sum (GE.un (ge_slHiK (ge_v (n := 0) rfl rfl hv) ge_int)))) ge_int (by decide)))) S fun v3 F3 H3 l3 S3 h3 => k _ v3 F3 H3 l3 S3 ⟨h3.h⟩ True.intro)
  have hlt := of_decide_eq_true hlt
  have hl : kk.toNat < ns.length := by omega
  rw [show kk = ((kk.toNat : Nat) : Int) by omega]
  refine atI_of ?_
  rw [Int.toNat_natCast, List.getD_eq_getElem?_getD, List.getElem?_eq_getElem hl]; rfl
def spBox : Sp := fun vs H Q _ => ∃ F cs g, vs = [.int g] ∧ Sta F cs H ∧ ∀ d H' x, BxOk x 0 → Sta F ((d, .lst (Bx.vs x)) :: cs) H' → Q (.ref d) H'
theorem spBox_len : ∀ vs H Q E, spBox vs H Q E → vs.length = 1 := fun vs H Q E ⟨_, _, _, e, _⟩ => by rw [e]; rfl
abbrev FBox (P : Program) (w : World) (K : PySem.W.Frag) (mg : Str → Option Value) (base : Heap) : Prop := Fn P w K mg base 1 "_law_box" sBox ["great"] spBox
theorem fn_box {f : Addr} {fd : FuncData} (T : Txt4 mg) (hF : Fun K "_law_box" "_law_box" sBox f fd) (hm : mg "_law_box" = some (.ref f)) (hb : Binds K fd ["great"] []) : FBox P w K mg base := by
  refine fn_mk hF hm hb scBox spBox_len fun cdv A outer s H vs Q E hr ⟨F, cs, g, e, S, k⟩ => ?_
  subst e
  refine wss_one (ws_retW (weB (pe_lst paW) (wa4 (GE.runI (ge_abs rfl T.abs (ge_vi (n := 0) rfl rfl)) S fun H1 S1 => GE.runB (ge_c (gc_ge (ge_abs rfl T.abs (ge_vi (n := 0) rfl rfl)) (ge_pow ge_int ge_int ⟨by decide, by decide, by decide⟩))) S1 fun H2 S2 =>
    GE.runI (ge_mod (ge_intI rfl T.int (ge_abs rfl T.abs (ge_vi (n := 0) rfl rfl))) ge_int (by decide)) S2 fun H3 S3 => GE.runI ge_int S3 fun H4 S4 => ⟨by show 4 ≤ sizeLine; decide, fun d hd => k d _ ⟨_, _, _, 0⟩ ⟨Int.emod_nonneg _ (by decide), Int.emod_lt_of_pos _ (by decide), Int.le_refl _, Int.le_refl _⟩ (S4.cell hd _)⟩))))
def spTake : Sp := fun vs H Q _ => ∃ F cs d x m many, vs = [.ref d, .int many] ∧ Sta F ((d, .lst (Bx.vs x)) :: cs) H ∧ BxOk x m ∧ m ≤ 100000 ∧ 1 ≤ many ∧ many ≤ 1000 ∧ ∀ F' H' x' y, Le1 F F' → BxOk x' (m + 1) → 0 ≤ y → y < many → Sta F' ((d, .lst (Bx.vs x')) :: cs) H' → Q (.int y) H'
theorem spTake_len : ∀ vs H Q E, spTake vs H Q E → vs.length = 2 := fun vs H Q E ⟨_, _, _, _, _, _, e, _⟩ => by rw [e]; rfl
abbrev FTake (P : Program) (w : World) (K : PySem.W.Frag) (mg : Str → Option Value) (base : Heap) : Prop := Fn P w K mg base 1 "_law_take" sTake ["box", "many"] spTake
theorem rIl (i : Int) : ∀ (F : Hp) (cs : Cs), rI F cs (.int i) i := fun _ _ => rfl
theorem rBl (b : Bool) : ∀ (F : Hp) (cs : Cs), rB F cs (.bl b) b := fun _ _ => rfl
theorem at0 (x : Bx) : atI (Bx.vs x) 0 = some (.int x.a) := atI_of (n := 0) rfl
theorem at1 (x : Bx) : atI (Bx.vs x) 1 = some (.bl x.b) := atI_of (n := 1) rfl
theorem at2 (x : Bx) : atI (Bx.vs x) 2 = some (.int x.c) := atI_of (n := 2) rfl
theorem at3 (x : Bx) : atI (Bx.vs x) 3 = some (.int x.n) := atI_of (n := 3) rfl
theorem fn_take {f : Addr} {fd : FuncData} (T : Txt4 mg) (hF : Fun K "_law_take" "_law_take" sTake f fd) (hm : mg "_law_take" = some (.ref f)) (hb : Binds K fd ["box", "many"] []) : FTake P w K mg base := by
  refine fn_mk hF hm hb scTake spTake_len fun cdv A outer s H vs Q E hr ⟨F, cs, d, x, m, many, e, S, hx, hm', h1, h2, k⟩ => ?_
  subst e
  have hc0 := hx.c0
  have hc1 := hx.c1
  have hn0 := hx.n0
  have hn1 := hx.n1
  refine wss_cons (ws_if (GW.to (gw_and (gt_of (ge_ixC (r := rB) (n := 0) rfl rfl List.mem_cons_self ge_int (at1 x) (rBl _))) fun _ => gw_and1 (gt_c (gc_gt (ge_ixC (r := rI) (n := 0) rfl rfl List.mem_cons_self ge_int (at0 x) (rIl _)) ge_int)))) S (fun ho H1 S1 => ?_) (fun ho H1 S1 => wss_nil ?_))
  · refine wss_cons (ws_setI scTake.nd (n := 2) rfl (.inl rfl) (ge_mod (ge_intI rfl T.int (ge_ixC (r := rI) (n := 0) rfl rfl List.mem_cons_self ge_int (at0 x) (rIl _))) (ge_vi (n := 1) rfl rfl) (by omega)) S1 fun H2 S2 => ?_)
    refine wss_cons (ws_setItem (r := rI) (x := x.a / many) 0 (m := 0) rfl rfl S2 rfl (ge_fdiv (ge_intI rfl T.int (ge_ixC (r := rI) (n := 0) rfl rfl List.mem_cons_self ge_int (at0 x) (rIl _))) (ge_vi (n := 1) rfl rfl) ⟨by omega, by omega⟩) ge_int (k' := 0) rfl fun v3 F3 H3 l3 S3 h3 => ?_)
    obtain rfl : v3 = .int (x.a / many) := h3.h
    have S3 : Sta F3 ((d, .lst (Bx.vs ⟨x.a / many, x.b, x.c, x.n⟩)) :: cs) H3 := S3
    exact wss_one (ws_retI (ge_vi (n := 2) rfl rfl) S3 fun H4 S4 => k F3 H4 ⟨x.a / many, x.b, x.c, x.n⟩ _ l3 ⟨hc0, hc1, hn0, by show x.n ≤ m + 1; omega⟩ (Int.emod_nonneg _ (by omega)) (Int.emod_lt_of_pos _ (by omega)) S4)
  · refine wss_cons (ws_setItem (r := rI) (x := x.n + 1) 0 (m := 0) rfl rfl S1 rfl (ge_add (ge_ixC (r := rI) (n := 0) rfl rfl List.mem_cons_self ge_int (at3 x) (rIl _)) ge_int) ge_int (k' := 3) rfl fun v3 F3 H3 l3 S3 h3 => ?_)
    obtain rfl : v3 = .int (x.n + 1) := h3.h
    have S3 : Sta F3 ((d, .lst (Bx.vs ⟨x.a, x.b, x.c, x.n + 1⟩)) :: cs) H3 := S3
    refine wss_cons (ws_setI scTake.nd (n := 3) rfl (.inl rfl) (ge_mod (ge_intI rfl T.int (ge_pow (ge_add (ge_add (ge_ixC (r := rI) (n := 0) rfl rfl List.mem_cons_self ge_int (at2 _) (rIl _)) (ge_mul ge_int (ge_ixC (r := rI) (n := 0) rfl rfl List.mem_cons_self ge_int (at3 _) (rIl _)) (.inl ⟨by decide, by decide⟩))) ge_int) ge_int ⟨by decide, by decide, by dsimp only; omega⟩)) ge_int (by decide)) S3 fun H4 S4 => ?_)
    dsimp only at S4 ⊢
    generalize hmx : (x.c + 15486041 * (x.n + 1) + 179424871) ^ (5 : Int).toNat % 2147483647 = mx
    have hm0 : 0 ≤ mx := by rw [← hmx]; exact Int.emod_nonneg _ (by decide)
    have hm1 : mx < 2147483647 := by rw [← hmx]; exact Int.emod_lt_of_pos _ (by decide)
    exact wss_one (ws_retI (ge_mod (ge_fdiv (ge_mod (ge_intI rfl T.int (ge_pow (ge_add (ge_mul (ge_vi (n := 3) rfl rfl) ge_int (.inr ⟨by decide, by decide⟩)) (ge_mul ge_int (ge_ixC (r := rI) (n := 0) rfl rfl List.mem_cons_self ge_int (at3 ⟨x.a, x.b, x.c, x.n + 1⟩) (rIl _)) (.inl ⟨by decide, by decide⟩))) ge_int ⟨by decide, by decide, by dsimp only; omega⟩)) ge_int (by decide)) ge_int ⟨by decide, by decide⟩) (ge_vi (n := 1) rfl rfl) (by omega)) S4 fun H5 S5 =>
      k F3 H5 ⟨x.a, x.b, x.c, x.n + 1⟩ _ l3 ⟨hc0, hc1, by show 0 ≤ x.n + 1; omega, by show x.n + 1 ≤ m + 1; omega⟩ (Int.emod_nonneg _ (by omega)) (Int.emod_lt_of_pos _ (by omega)) S5)
end
end K97

-- part K98d
namespace K97
open PySem PySem.Spec PyProof.Rows L2 DL
section
variable {P : Program} {w : World} {K : PySem.W.Frag} {mg : Str → Option Value} {base : Heap}
def spMixed : Sp := fun vs H Q _ => ∃ F cs d x m v xs, vs = [.ref d, v] ∧ Sta F ((d, .lst (Bx.vs x)) :: cs) H ∧ BxOk x m ∧ m ≤ 90000 ∧ Is (fz (rL rI)) F cs v xs ∧ xs.length ≤ 100 ∧
  ∀ F' H' x' ys v', Le1 F F' → BxOk x' (m + xs.length) → ys.Perm xs → Sta F' ((d, .lst (Bx.vs x')) :: cs) H' → Is (fz (rL rI)) F' [] v' ys → Q v' H'
theorem spMixed_len : ∀ vs H Q E, spMixed vs H Q E → vs.length = 2 := fun vs H Q E ⟨_, _, _, _, _, _, _, e, _⟩ => by rw [e]; rfl
abbrev FMixed (P : Program) (w : World) (K : PySem.W.Frag) (mg : Str → Option Value) (base : Heap) : Prop := Fn P w K mg base 2 "_law_mixed" sMixed ["box", "items"] spMixed
theorem perm_erase {left found xs : List Int} {k : Nat} {y : Int} (h : (found ++ left).Perm xs) (hy : left[k]? = some y) : ((found ++ [y]) ++ left.eraseIdx k).Perm xs := by
  refine List.Perm.trans ?_ h
  rw [List.append_assoc]
  exact (L2.erase_perm left k y hy).append_left _
theorem paired_erase {α β : Type} {R : α → β → Prop} : ∀ {xs : List α} {ys : List β} {k : Nat}, Paired R xs ys → Paired R (xs.eraseIdx k) (ys.eraseIdx k)
  | _, _, _, .nil => .nil
  | _, _, 0, .cons _ t => t
  | _, _, k + 1, .cons h t => .cons h (paired_erase t)
theorem fn_mixed {f : Addr} {fd : FuncData} (T : Txt4 mg) (cT : FTake P w K mg base) (hF : Fun K "_law_mixed" "_law_mixed" sMixed f fd) (hm : mg "_law_mixed" = some (.ref f)) (hb : Binds K fd ["box", "items"] []) : FMixed P w K mg base := by
  refine fn_mk hF hm hb scMixed spMixed_len fun cdv A outer s H vs Q E hr ⟨F, cs, d, x, m, v, xs, e, S, hx, hm', hv, hl, k⟩ => ?_
  subst e
  have hv' : Is (fz (rL rI)) F ((d, .lst (Bx.vs x)) :: cs) v xs := ⟨hv.h⟩
  refine wss_cons (ws_par rfl scMixed.nd (n := 2) (m := 3) rfl rfl (by decide) rfl rfl (we_listC rfl T.list (GE.un (ge_v (n := 1) rfl rfl hv')) S fun d1 vs1 F1 H1 l1 S1 h1 => we_nilC S1 fun d2 H2 S2 => ?_))
  refine wss_cons (ws_while (ι := List Int) (fun left σ H => ∃ F' x' ws gs found, Le F F' ∧ σ = [some (.ref d), some v, some (.ref d1), some (.ref d2)] ∧ Sta F' ((d2, .lst gs) :: (d1, .lst ws) :: (d, .lst (Bx.vs x')) :: cs) H ∧ Els rI F' ws left ∧ Els rI F' gs found ∧ (found ++ left).Perm xs ∧ BxOk x' (m + found.length)) (fun left => left.length) xs PassesOwn.never
    ⟨F1, x, vs1, [], [], l1.le, rfl, S2, h1, .nil, .refl _, ⟨hx.c0, hx.c1, hx.n0, by have := hx.n1; simpa using this⟩⟩ ?_)
  rintro left σ H3 ⟨F3, x', ws, gs, found, l3, rfl, S3, hw, hg, hp, hx'⟩
  have l3' := l3.one
  have hlen : found.length + left.length = xs.length := by rw [← hp.length_eq, List.length_append]
  refine (gt_c (gc_neD (r := rL rI) (hu64 hr) (by decide) (ge_vc (n := 2) rfl rfl (.tail _ List.mem_cons_self) hw) (GE.un ge_nil))).run S3 fun H4 S4 => ite2 (fun h => ?_) (fun h => ?_)
  · have hne : left ≠ [] := by simpa using h
    have hpos : 0 < left.length := List.length_pos_iff.mpr hne
    have hwl : ws.length = left.length := Paired.length hw
    refine wss_one (ws_expr (we_appendW (w := d2) (we_var (n := 3) rfl rfl ⟨rfl, ⟨gs, S4.has _ List.mem_cons_self⟩, we_popW (w := d1) (m := 2) rfl rfl ⟨ws, S4.has _ (.tail _ List.mem_cons_self)⟩
      (we_callA cT hr (by decide) rfl (wa2 (we_var (n := 0) rfl rfl (GE.runI (ge_lenL rfl T.len (ge_vc (n := 2) rfl rfl (.tail _ List.mem_cons_self) hw)) S4 fun H5 S5 => ⟨F3, (d2, .lst gs) :: (d1, .lst ws) :: cs, d, x', m + found.length, left.length, rfl, S5.perm ?_, hx', by omega, by omega, by omega, fun F6 H6 x6 y l6 hx6 hy0 hy1 S6 => ?_⟩))))⟩)))
    · exact ((List.Perm.swap _ _ _).cons _).trans (List.Perm.swap _ _ _)
    · have S7 : Sta F6 ((d2, .lst gs) :: (d1, .lst ws) :: (d, .lst (Bx.vs x6)) :: cs) H6 := S6.perm ((List.Perm.swap _ _ _).trans ((List.Perm.swap _ _ _).cons _))
      have hyl : y.toNat < left.length := by omega
      obtain ⟨u0, hu0⟩ : ∃ u0, left[y.toNat]? = some u0 := ⟨_, List.getElem?_eq_getElem hyl⟩
      obtain ⟨u, hu, hur⟩ := Paired.get1 hw hu0
      obtain rfl : u = .int u0 := hur
      have S8 := S7.set (i := 1) (o' := .lst (ws.eraseIdx y.toNat)) rfl nfL
      have S9 := S8.set (i := 0) (o' := .lst (gs ++ [.int u0])) rfl nfL
      have S9 : Sta F6 ((d2, .lst (gs ++ [.int u0])) :: (d1, .lst (ws.eraseIdx y.toNat)) :: (d, .lst (Bx.vs x6)) :: cs) _ := S9
      refine ⟨ws, y, y.toNat, .int u0, rfl, S7.has _ (.tail _ List.mem_cons_self), by omega, by omega, ?_, hu, gs, S8.has _ List.mem_cons_self, ?_, left.eraseIdx y.toNat, ?_, F6, x6, ws.eraseIdx y.toNat, gs ++ [.int u0], found ++ [u0], l3.trans l6.le, rfl, S9, ?_, ?_, ?_, ?_⟩
      · have : ixN ws.length y = some y.toNat := by unfold ixN; rw [if_pos hy0, if_pos (by omega)]
        exact (ixN_seq this).1
      · rw [show gs.length = found.length from Paired.length hg, sizeLine_eq]; omega
      · show (left.eraseIdx y.toNat).length < left.length
        rw [List.length_eraseIdx, if_pos hyl]; omega
      · exact Els.up l6.le (paired_erase hw)
      · exact Paired.app (Els.up l6.le hg) (.cons rfl .nil)
      · exact perm_erase hp hu0
      · rw [List.length_append, List.length_singleton]
        refine ⟨hx6.c0, hx6.c1, hx6.n0, ?_⟩
        have := hx6.n1
        omega
  · have hnil : left = [] := by simpa using h
    subst hnil
    rw [List.append_nil] at hp
    have S5 : Sta F3 ((d2, .lst gs) :: (d, .lst (Bx.vs x')) :: cs) H4 := S4.sub (List.Sublist.cons₂ _ (List.sublist_cons_self _ _))
    obtain ⟨F6, l6, S6, h6⟩ := frzL S5 hg
    refine wss_one (ws_retW (we_var (n := 3) rfl rfl (k F6 _ x' found _ (l3'.tr l6) ?_ hp S6 ⟨h6.h⟩)))
    rw [← hp.length_eq]
    exact hx'
end
end K97

-- part K98e
namespace K97
open PySem PySem.Spec PyProof.Rows L2 DL
abbrev sGroups : Stmt := topS 46
abbrev sApart : Stmt := topS 47
theorem scGroups : FnScope ["box", "people", "found", "turn", "group"] ["box"] (defScope sGroups) := ⟨rfl, rfl, rfl, by decide +kernel, rfl, by decide +kernel, by decide +kernel⟩
theorem scApart : FnScope ["box", "people", "found", "times", "turn", "group", "fits", "person", "other"] ["box"] (defScope sApart) := ⟨rfl, rfl, rfl, by decide +kernel, rfl, by decide +kernel, by decide +kernel⟩
theorem draw_ok {people ys : List Int} {n : Nat} (hnd : people.Nodup) (hp : ys.Perm people) : (srt (ys.take n)).Pairwise (· < ·) ∧ (∀ x ∈ srt (ys.take n), x ∈ people) ∧ (srt (ys.take n)).length = min n people.length := by
  have nd : (srt (ys.take n)).Nodup := (srt_perm _).nodup_iff.mpr ((hp.nodup_iff.mpr hnd).sublist (List.take_sublist _ _))
  refine ⟨?_, fun x hx => hp.mem_iff.mp (List.mem_of_mem_take (srt_mem.mp hx)), by rw [srt_length, List.length_take, hp.length_eq]⟩
  exact ((srt_sorted (ys.take n)).and nd).imp fun ⟨h1, h2⟩ => by omega
theorem cut_draw {ys : List Int} {y : Int} (h : 0 ≤ y) : cut ys none (some (1 + y)) = ys.take (1 + y).toNat := by
  obtain ⟨n, hn⟩ : ∃ n : Nat, 1 + y = (n : Int) := ⟨(1 + y).toNat, by omega⟩
  rw [hn, cut_hi, Int.toNat_natCast]
structure Ppl (p : List Int) (n : Nat) : Prop where
  ri : p.Pairwise (· < ·)
  bd : ∀ x ∈ p, 0 ≤ x ∧ x ≤ 29
  l1 : 1 ≤ p.length
  l2 : p.length ≤ n
theorem Ppl.nd {p : List Int} {n : Nat} (h : Ppl p n) : p.Nodup := h.ri.imp fun a => by omega
theorem Ppl.draw {p : List Int} {m : Nat} (h : Ppl p m) {ys : List Int} (hp : ys.Perm p) {n : Nat} (h1 : 1 ≤ n) : Ppl (srt (ys.take n)) n := by
  obtain ⟨a, b, c⟩ := draw_ok (n := n) h.nd hp
  have := h.l1
  exact ⟨a, fun x hx => h.bd x (b x hx), by omega, by omega⟩
theorem Ppl.all {ys : List Int} (hp : ys.Perm (rng 0 30)) {n : Nat} (h1 : 1 ≤ n) : Ppl (srt (ys.take n)) n := by
  obtain ⟨a, b, c⟩ := draw_ok (n := n) (rng_nodup 0 30) hp
  rw [rng_length] at c
  exact ⟨a, fun x hx => by have := mem_rng.mp (b x hx); omega, by omega, by omega⟩
theorem Ppl.grp {p : List Int} {n : Nat} (h : Ppl p n) (hn : n ≤ 6) : Grp p := ⟨fun e => by have := h.l1; rw [e] at this; exact absurd this (by decide), h.ri, h.bd, Nat.le_trans h.l2 hn⟩
theorem atI_last {α : Type} {xs : List α} (h : xs ≠ []) : ∃ x ∈ xs, atI xs (-1) = some x := by
  have hl : 0 < xs.length := List.length_pos_iff.mpr h
  refine ⟨xs[xs.length - 1], List.getElem_mem _, ?_⟩
  unfold atI ixN
  rw [if_neg (by decide), if_pos (by omega)]
  show xs[((-1 : Int) + xs.length).toNat]? = _
  rw [show ((-1 : Int) + xs.length).toNat = xs.length - 1 by omega, List.getElem?_eq_getElem]
section
variable {P : Program} {w : World} {K : PySem.W.Frag} {mg : Str → Option Value} {base : Heap}
def spGroups : Sp := fun vs H Q _ => ∃ F cs d x m, vs = [.ref d] ∧ Sta F ((d, .lst (Bx.vs x)) :: cs) H ∧ BxOk x m ∧ m ≤ 50000 ∧
  ∀ F' H' x' G v', Le1 F F' → BxOk x' (m + 1000) → Grps G → G.length ≤ 12 → Sta F' ((d, .lst (Bx.vs x')) :: cs) H' → Is (fz (rL (rL rI))) F' [] v' G → Q v' H'
theorem spGroups_len : ∀ vs H Q E, spGroups vs H Q E → vs.length = 1 := fun vs H Q E ⟨_, _, _, _, _, e, _⟩ => by rw [e]; rfl
abbrev FGroups (P : Program) (w : World) (K : PySem.W.Frag) (mg : Str → Option Value) (base : Heap) : Prop := Fn P w K mg base 3 "_law_groups" sGroups ["box"] spGroups
theorem BxOk.mono {x : Bx} {m m' : Int} (h : BxOk x m) (hm : m ≤ m') : BxOk x m' := ⟨h.c0, h.c1, h.n0, by have := h.n1; omega⟩
theorem we_draw {X : Cx} {σ : Sl} {F : Hp} {cs : Cs} {H : Hp} {Q : VK} {e e2 : Expr} {p1 p2 p3 p4 p5 p6 p7 p8 p9 p10 p11 p12 : Pos} {n0 l : Nat} {d : Addr} {x : Bx} {m many : Int} {xs : List Int} (cM : FMixed X.prog X.w X.K X.mg X.base) (cT : FTake X.prog X.w X.K X.mg X.base) (hr : Room l X.A) (hk : 2 ≤ l)
    (g1 : Gl X "sorted") (m1 : X.mg "sorted" = none) (g2 : Gl X "_law_mixed") (g3 : Gl X "_law_take") (hN : X.N[0]? = some ("box" : Str)) (hσ : σ[0]? = some (some (.ref d))) (hv : Vis X.env.scope "box") (S : Sta F ((d, .lst (Bx.vs x)) :: cs) H) (hx : BxOk x m) (hm : m ≤ 90000)
    (he : GE X σ F ((d, .lst (Bx.vs x)) :: cs) e (fz (rL rI)) xs) (hl : xs.length ≤ 100) (he2 : ∀ F2 x', Le F F2 → GE X σ F2 ((d, .lst (Bx.vs x')) :: cs) e2 rI many) (h1 : 1 ≤ many) (h2 : many ≤ 1000)
    (k : ∀ F2 H2 x' v (ys : List Int) (y : Int), Le1 F F2 → BxOk x' (m + xs.length + 1) → ys.Perm xs → 0 ≤ y → y < many → Sta F2 ((d, .lst (Bx.vs x')) :: cs) H2 → Is (fz (rL rI)) F2 [] v (srt (ys.take (1 + y).toNat)) → Q v H2)
    (s1 : starEach [.Name "box" p3, e] X.env = (false, eval (.Name "box" p3) X.env) :: starEach [e] X.env := by rfl) (s2 : starEach [e] X.env = (false, eval e X.env) :: starEach [] X.env := by rfl) (s3 : (backTo p4 (starEach [e] X.env)).any (·.1) = false := by rfl)
    (s4 : starEach [.Name "box" p7, e2] X.env = (false, eval (.Name "box" p7) X.env) :: starEach [e2] X.env := by rfl) (s5 : starEach [e2] X.env = (false, eval e2 X.env) :: starEach [] X.env := by rfl) (s6 : (backTo p8 (starEach [e2] X.env)).any (·.1) = false := by rfl) :
    WE X (.Call (.Name "sorted" p1) [.Subscript (.Call (.Name "_law_mixed" p2) [.Name "box" p3, e] [] p4) (.Slice none (some (.BinOp (.Constant (.int 1) n0 p5) .Add (.Call (.Name "_law_take" p6) [.Name "box" p7, e2] [] p8) p9)) none p10) p11] [] p12) σ H Q := by
  refine we_sorted g1 m1 (we_slHi (r := rI) (we_callA cM hr hk g2 (wa2 ?_ s1 s2) (by decide) s1 s3))
  refine we_var hN hσ ?_ hv (by decide) (by decide)
  refine he F _ H _ (Le.refl _) (Sub.refl _) S fun v1 F1 H1 l1 S1 q1 => ⟨F1, cs, d, x, m, v1, xs, rfl, S1, hx, hm, ⟨q1⟩, hl, fun F2 H2 x2 ys v2 l2 hx2 hp S2 q2 => ?_⟩
  refine we_add (GE.runI ge_int S2 fun H3 S3 => ⟨1, rfl, we_callA cT hr (Nat.le_trans (by decide) hk) g3 (wa2 ?_ s4 s5) (by decide) s4 s6⟩)
  refine we_var hN hσ ?_ hv (by decide) (by decide)
  refine GE.runI (he2 F2 x2 (l1.trans l2.le)) S3 fun H4 S4 => ⟨F2, cs, d, x2, m + xs.length, many, rfl, S4, hx2, by omega, h1, h2, fun F5 H5 x5 y l5 hx5 hy0 hy1 S5 => ⟨y, rfl, ?_⟩⟩
  refine ⟨F5, _, ys, 1 + y, rfl, S5, (show Is (rL rI) F5 ((d, .lst (Bx.vs x5)) :: cs) v2 ys from ⟨Stable.up (r := rL rI) l5.le (Sub.nil _) q2.h⟩).h, fun v6 F6 H6 l6 S6 h6 => ?_⟩
  refine ⟨F6, _, _, S6, h6.un.h, fun v7 F7 H7 l7 S7 h7 => ?_⟩
  rw [cut_draw hy0] at h7
  exact k F7 H7 x5 v7 ys y (l1.one.tr (l2.tr (l5.tr (l6.tr l7)))) hx5 hp hy0 hy1 S7 ⟨h7.h⟩
theorem fn_groups {f : Addr} {fd : FuncData} (T : Txt4 mg) (cT : FTake P w K mg base) (cM : FMixed P w K mg base) (hF : Fun K "_law_groups" "_law_groups" sGroups f fd) (hm : mg "_law_groups" = some (.ref f)) (hb : Binds K fd ["box"] []) : FGroups P w K mg base := by
  refine fn_mk hF hm hb scGroups spGroups_len fun cdv A outer s H vs Q E hr ⟨F, cs, d, x, m, e, S, hx, hm', k⟩ => ?_
  subst e
  refine wss_cons (ws_par rfl scGroups.nd (n := 1) (m := 2) rfl rfl (by decide) rfl rfl ?_)
  refine we_draw (xs := rng 0 30) (many := 7) cM cT hr (by decide) rfl T.sorted rfl rfl rfl rfl (by first | exact Or.inl rfl | exact Or.inr (Or.inl rfl)) S hx (by omega) ?_ (by decide) (fun F2 x' l => ge_int) (by decide) (by decide)
    fun F7 H7 x5 v7 ys y l7 hx5 hp hy0 hy1 S7 h7 => we_nilC S7 fun d2 H8 S8 => ?_
  · exact ge_listRg (i := 30) rfl rfl T.list rfl T.range ge_int (by decide) (by decide)
  have hx5 : BxOk x5 (m + 31) := hx5.mono (by rw [rng_length]; omega)
  have hP : Ppl (srt (ys.take (1 + y).toNat)) 7 := by
    have := Ppl.all hp (n := (1 + y).toNat) (by omega)
    exact ⟨this.ri, this.bd, this.l1, Nat.le_trans this.l2 (by omega)⟩
  generalize srt (ys.take (1 + y).toNat) = people at h7 hP
  have hPl := hP.l2
  have hP1 := hP.l1
  refine wss_cons (ws_forX (F := F7) (R := cs) (E := fun xs own => xs.length ≤ 12 ∧ ∃ x', own = [(d2, .lst []), (d, .lst (Bx.vs x'))] ∧ BxOk x' (m + 40)) (fun xs pre F' own' σ' => xs.length ≤ 12 ∧ ∃ x' ws G a b, own' = [(d2, .lst ws), (d, .lst (Bx.vs x'))] ∧ Els (rL rI) F' ws G ∧ (∀ g ∈ G, Grp g) ∧ G.length ≤ pre.length ∧ BxOk x' (m + 40 + 10 * pre.length) ∧ σ' = [some (.ref d), some v7, some (.ref d2), a, b]) PassesOwn.never rfl
    (gix_rng1 rfl T.range (we_callA cT hr (by decide) rfl (wa2 (we_var (n := 0) rfl rfl (GE.runI ge_int S8 fun H9 S9 => ⟨F7, (d2, .lst []) :: cs, d, x5, m + 31, 13, rfl, S9.perm (List.Perm.swap _ _ _), hx5, by omega, by decide, by decide, fun F10 H10 x10 j l10 hx10 hj0 hj1 S10 =>
      ⟨F10, [(d2, .lst []), (d, .lst (Bx.vs x10))], j, rfl, by omega, by omega, l10.le, S10.perm (List.Perm.swap _ _ _), rfl, by rw [rng_length]; omega, x10, rfl, hx10.mono (by omega)⟩⟩)))))
    (gb_i scGroups.nd (i := 3) rfl (.inl rfl)) (fun xs own F11 ⟨h12, x', eo, hx'⟩ l11 => ⟨h12, x', [], [], _, _, eo, .nil, (fun _ z => by cases z), Nat.le_refl _, by simpa using hx', rfl⟩) ?_ ?_)
  · rintro xs pre tn post F12 F13 own' σ' H13 v13 σ1 R' eG l12 l13 hsR hR S13 ⟨h12, x', ws, G, a, b, rfl, hk, hG, hGl, hx', rfl⟩ rfl
    have hprel : pre.length ≤ 12 := by rw [eG, List.length_append] at h12; omega
    have S13 : Sta F13 ((d, .lst (Bx.vs x')) :: (d2, .lst ws) :: R') H13 := S13.perm (List.Perm.swap _ _ _)
    have h7' : ∀ cs, Is (fz (rL rI)) F7 cs v7 people := fun cs => ⟨h7.h⟩
    refine wss_cons (ws_setW scGroups.nd (n := 4) rfl (.inl rfl) ?_)
    refine we_draw (xs := people) cM cT hr (by decide) rfl T.sorted rfl rfl rfl rfl (by first | exact Or.inl rfl | exact Or.inr (Or.inl rfl)) S13 hx' (by omega) (ge_v (n := 1) rfl rfl (h7' ((d, .lst (Bx.vs x')) :: (d2, .lst ws) :: R'))) (by omega) (fun F2 x'' l => ge_min2 rfl rfl T.min (ge_lenL rfl T.len (GE.un (ge_v (n := 1) rfl rfl (h7' ((d, .lst (Bx.vs x'')) :: (d2, .lst ws) :: R'))))) ge_int) ?_ ?_
      fun F14 H14 x14 v14 zs z l14 hx14 hp14 hz0 hz1 S14 h14 => ?_
    · split <;> omega
    · split <;> omega
    · have hzm : (1 + z).toNat ≤ 5 := by
        have : z < 5 := by split at hz1 <;> omega
        omega
      have hPg : Ppl (srt (zs.take (1 + z).toNat)) (1 + z).toNat := hP.draw hp14 (by omega)
      have hgg : Grp (srt (zs.take (1 + z).toNat)) := hPg.grp (by omega)
      generalize srt (zs.take (1 + z).toNat) = g at h14 hgg
      have hx14 : BxOk x14 (m + 40 + 10 * pre.length + 8) := hx14.mono (by omega)
      have hk14 := Els.up (l13.le.trans l14.le) hk
      have hwl : ws.length = G.length := Paired.length hk
      refine wss_one (ws_expr (we_appendW (w := d2) (we_var (n := 2) rfl rfl ⟨rfl, ⟨ws, S14.has _ (.tail _ List.mem_cons_self)⟩, we_if (WW.to (ww_and (GT.wt (gt_c (gc_neD (r := rL (rL rI)) (hu64 hr) (by decide) (ge_vc (n := 2) rfl rfl (.tail _ List.mem_cons_self) hk14) (GE.un ge_nil))) S14 fun H15 S15 => ?_)))⟩)))
      have fin : ∀ (F16 : Hp) (H16 : Hp) (x16 : Bx) (v16 : V) (g' : List Int), Le F14 F16 → Sta F16 ((d, .lst (Bx.vs x16)) :: (d2, .lst ws) :: R') H16 → BxOk x16 (m + 40 + 10 * pre.length + 9) → rL rI F16 [] v16 g' → Grp g' →
          ∃ vs, H16 d2 = some (.lst vs) ∧ vs.length < sizeLine ∧ ∃ F2 own2, Le F13 F2 ∧ Sta F2 (own2 ++ R') (upd H16 d2 (.lst (vs ++ [v16]))) ∧ (xs.length ≤ 12 ∧ ∃ x' ws G a b, own2 = [(d2, .lst ws), (d, .lst (Bx.vs x'))] ∧ Els (rL rI) F2 ws G ∧ (∀ g ∈ G, Grp g) ∧ G.length ≤ (pre ++ [tn]).length ∧ BxOk x' (m + 40 + 10 * (pre ++ [tn]).length) ∧ [some (.ref d), some v7, some (.ref d2), some (.int tn), some v14] = [some (.ref d), some v7, some (.ref d2), a, b]) := fun F16 H16 x16 v16 g' l16 S16 hx16 h16 hg' => by
        have S17 := S16.set (i := 1) (o' := .lst (ws ++ [v16])) rfl nfL
        have S17 : Sta F16 ((d, .lst (Bx.vs x16)) :: (d2, .lst (ws ++ [v16])) :: R') (upd H16 d2 (.lst (ws ++ [v16]))) := S17
        refine ⟨ws, S16.has _ (.tail _ List.mem_cons_self), by rw [hwl, sizeLine_eq]; omega, F16, [(d2, .lst (ws ++ [v16])), (d, .lst (Bx.vs x16))], l14.le.trans l16, S17.perm (List.Perm.swap _ _ _), h12, x16, ws ++ [v16], G ++ [g'], _, _, rfl, Paired.app (Els.up l16 hk14) (.cons h16 .nil), fun q hq => ?_, ?_, hx16.mono ?_, rfl⟩
        · rcases List.mem_append.mp hq with z | z
          · exact hG q z
          · rw [List.mem_singleton.mp z]; exact hg'
        · rw [List.length_append, List.length_append, List.length_singleton, List.length_singleton]; omega
        · rw [List.length_append, List.length_singleton]; omega
      by_cases hGn : G = []
      · rw [if_neg (by simp [hGn]), if_neg Bool.false_ne_true]
        exact (ge_v (n := 4) rfl rfl (show Is (fz (rL rI)) F14 ((d, .lst (Bx.vs x14)) :: (d2, .lst ws) :: R') v14 g from ⟨h14.h⟩)).run S15 fun v16 F16 H16 l16 S16 h16 => fin F16 H16 x14 v16 g l16.le S16 (hx14.mono (by omega)) h16.h hgg
      · rw [if_pos (by simp [hGn])]
        refine ww_and1 (wt_eq (we_callA cT hr (by decide) rfl (wa2 (we_var (n := 0) rfl rfl (GE.runI ge_int S15 fun H16 S16 => ⟨F14, (d2, .lst ws) :: R', d, x14, _, 4, rfl, S16, hx14, by omega, by decide, by decide, fun F17 H17 x17 y17 l17 hx17 hy0 hy1 S17 => ⟨y17, rfl, GE.runI ge_int S17 fun H18 S18 => ⟨0, rfl, ?_⟩⟩⟩)))))
        have hx17 : BxOk x17 (m + 40 + 10 * pre.length + 9) := hx17.mono (by omega)
        refine ite2 (fun _ => ?_) (fun _ => ?_)
        · obtain ⟨g', hg', hat⟩ := atI_last hGn
          exact GE.run (ge_listL (r := rI) (xs := g') rfl T.list (GE.un (ge_ixL (r := rL rI) (ge_vc (n := 2) rfl rfl (.tail _ List.mem_cons_self) (Els.up l17.le hk14)) (ge_neg ge_int) hat))) S18 fun v19 F19 H19 l19 S19 h19 => fin F19 H19 x17 v19 g' (l17.le.trans l19.le) S19 hx17 h19.h (hG g' hg')
        · exact (ge_v (n := 4) rfl rfl (show Is (fz (rL rI)) F14 ((d, .lst (Bx.vs x17)) :: (d2, .lst ws) :: R') v14 g from ⟨h14.h⟩)).run S18 fun v16 F16 H16 l16 S16 h16 => fin F16 H16 x17 v16 g (l17.le.trans l16.le) S16 hx17 h16.h hgg
  · rintro xs F12 own' σ' H13 R' l12 hsR hR S13 ⟨h12, x', ws, G, a, b, rfl, hk, hG, hGl, hx', rfl⟩
    obtain ⟨F6, l6, S6, h6⟩ := frzL S13 hk
    exact wss_one (ws_retW (we_var (n := 2) rfl rfl (k F6 _ x' G _ (l7.tr (l12.tr l6)) (hx'.mono (by omega)) ⟨by omega, hG⟩ (by omega) (S6.sub (List.Sublist.cons₂ _ hR)) ⟨h6.h⟩)))
end
end K97

-- part K98f
namespace DL
open PySem PySem.Spec PyProof.Rows L2
section
variable {X : Cx} {σ : Sl} {F : Hp} {cs : Cs} {a b : Expr} {pos : Pos} {α : Type} {r : Rep α}
theorem ge_cat {xs ys : List α} [s : Stable r] (ha : GE X σ F cs a (rL r) xs) (hb : GE X σ F cs b (rL r) ys) (hl : xs.length + ys.length ≤ 1000) : GE X σ F cs (.BinOp a .Add b pos) (fz (rL r)) (xs ++ ys) := fun F1 cs1 H Q l1 u1 S q =>
  weB (pe_op op_cat peW peW) (ha F1 cs1 H _ l1 u1 S fun v F2 H2 l2 S2 ⟨w, vs, e, h, hp⟩ => hb F2 cs1 H2 _ (l1.trans l2) u1 S2 fun v2 F3 H3 l3 S3 ⟨w2, vs2, e2, h2, hp2⟩ =>
    ⟨w, w2, vs, vs2, e, e2, S3.rd (h.imp (l3.h _ _) id), S3.rd h2, by rw [Els.len hp, Els.len hp2]; exact Nat.le_trans hl (by decide), fun p hn => q _ _ _ (l2.trans (l3.trans (S3.new hn _).1.le)) (S3.new hn _).2 ⟨p, _, rfl, .inl upd_same, Paired.app (Els.up (l3.trans (S3.new hn _).1.le) hp) (Els.up (S3.new hn _).1.le hp2)⟩⟩)
end
end DL
namespace K97
open PySem PySem.Spec PyProof.Rows L2 DL
/-- in how many groups p is -/
def occ (G : List (List Int)) (p : Int) : Nat := G.countP fun g => decide (p ∈ g)
structure Apt (G : List (List Int)) (D : Ds) : Prop where
  ok : ∀ g ∈ G, Grp g
  tm : ∀ p, (look D p).getD 0 = (occ G p : Int)
  le : ∀ g ∈ G, ∀ p ∈ g, occ G p ≤ g.length
  nd : (keys D).Nodup
  bd : ∀ p ∈ keys D, 0 ≤ p ∧ p ≤ 29
theorem Apt.len {G : List (List Int)} {D : Ds} (h : Apt G D) : D.length ≤ 30 := by
  rw [← keys_length]
  exact nodup_rng h.nd (n := 30) fun x hx => by have := h.bd x hx; omega
def upT (D : Ds) (p : Int) : Ds := put D p ((look D p).getD 0 + 1)
theorem upT_get (D : Ds) (p q : Int) : (look (upT D p) q).getD 0 = (look D q).getD 0 + if q = p then 1 else 0 := by
  unfold upT
  rw [look_put]
  by_cases h : q = p
  · rw [if_pos h, if_pos h, h]; rfl
  · rw [if_neg h, if_neg h, Int.add_zero]
theorem upT_fold : ∀ (g : List Int) (D : Ds) (q : Int), g.Nodup → (look (g.foldl upT D) q).getD 0 = (look D q).getD 0 + if q ∈ g then 1 else 0
  | [], D, q, _ => by simp
  | p :: g, D, q, nd => by
    rw [List.nodup_cons] at nd
    rw [List.foldl_cons, upT_fold g _ q nd.2, upT_get]
    by_cases h : q = p
    · subst h
      rw [if_pos rfl, if_neg nd.1, if_pos List.mem_cons_self]; omega
    · rw [if_neg h]
      by_cases h2 : q ∈ g
      · rw [if_pos h2, if_pos (List.mem_cons_of_mem _ h2)]; omega
      · rw [if_neg h2, if_neg fun z => (List.mem_cons.mp z).elim h h2]; omega
structure DsOk (D : Ds) : Prop where
  nd : (keys D).Nodup
  bd : ∀ p ∈ keys D, 0 ≤ p ∧ p ≤ 29
theorem DsOk.len {D : Ds} (h : DsOk D) : D.length ≤ 30 := by
  rw [← keys_length]
  exact nodup_rng h.nd (n := 30) fun x hx => by have := h.bd x hx; omega
theorem DsOk.up {D : Ds} (h : DsOk D) {p : Int} (hp : 0 ≤ p ∧ p ≤ 29) : DsOk (upT D p) := ⟨keys_put_nd h.nd _ _, fun q hq => by
  rcases mem_keys_put.mp hq with e | e
  · rw [e]; exact hp
  · exact h.bd q e⟩
theorem DsOk.fold : ∀ (g : List Int) (D : Ds), DsOk D → (∀ p ∈ g, 0 ≤ p ∧ p ≤ 29) → DsOk (g.foldl upT D)
  | [], _, h, _ => h
  | p :: g, D, h, hp => DsOk.fold g _ (h.up (hp p List.mem_cons_self)) fun q hq => hp q (List.mem_cons_of_mem _ hq)
theorem occ_snoc (G : List (List Int)) (g : List Int) (p : Int) : occ (G ++ [g]) p = occ G p + if p ∈ g then 1 else 0 := by
  unfold occ
  rw [List.countP_append, List.countP_singleton]
  simp
/-- who does not fit -/
def fitF (G : List (List Int)) (D : Ds) (g : List Int) (p : Int) : Bool := !decide (((G ++ [g]).filter fun o => decide (p ∈ o) && decide ((o.length : Int) < 1 + (look D p).getD 0)).map (fun _ => (1 : Int)) = [])
theorem Apt.add {G : List (List Int)} {D : Ds} (h : Apt G D) {g : List Int} (hg : Grp g) (hf : g.filter (fitF G D g) = []) : Apt (G ++ [g]) (g.foldl upT D) := by
  have hfit : ∀ p ∈ g, ∀ o ∈ G ++ [g], p ∈ o → occ G p + 1 ≤ o.length := fun p hp o ho hpo => by
    have h1 := List.filter_eq_nil_iff.mp hf p hp
    unfold fitF at h1
    have h2 : ((G ++ [g]).filter fun o => decide (p ∈ o) && decide ((o.length : Int) < 1 + (look D p).getD 0)).map (fun _ => (1 : Int)) = [] := by simpa using h1
    have h3 := List.filter_eq_nil_iff.mp (List.map_eq_nil_iff.mp h2) o ho
    rw [h.tm p, decide_eq_true hpo, Bool.true_and, decide_eq_true_eq] at h3
    omega
  have hD := DsOk.fold g D ⟨h.nd, h.bd⟩ hg.bd
  refine ⟨fun o ho => ?_, fun p => ?_, fun o ho p hpo => ?_, hD.nd, hD.bd⟩
  · rcases List.mem_append.mp ho with z | z
    · exact h.ok o z
    · rw [List.mem_singleton.mp z]; exact hg
  · rw [upT_fold g D p hg.nd, h.tm p, occ_snoc]
    by_cases z : p ∈ g
    · rw [if_pos z, if_pos z]; omega
    · rw [if_neg z, if_neg z]; omega
  · rw [occ_snoc]
    by_cases z : p ∈ g
    · rw [if_pos z]
      exact hfit p z o ho hpo
    · rw [if_neg z]
      rcases List.mem_append.mp ho with y | y
      · exact h.le o y p hpo
      · rw [List.mem_singleton.mp y] at hpo
        exact absurd hpo z
theorem Apt.init : Apt [] [] := ⟨(fun _ z => by cases z), fun p => rfl, (fun _ z => by cases z), List.nodup_nil, (fun _ z => by cases z)⟩
theorem occ_mul : ∀ (G : List (List Int)) (p : Int) (c : Nat), (∀ g ∈ G, Grp g) → (∀ g ∈ G, p ∈ g → c ≤ g.length) → (c : Int) * Sv G p ≤ 60 * (occ G p : Int)
  | [], p, c, _, _ => by show (c : Int) * 0 ≤ _; simp [occ]
  | g :: G, p, c, hG, hc => by
    have ih := occ_mul G p c (fun g' h' => hG g' (List.mem_cons_of_mem _ h')) fun g' h' => hc g' (List.mem_cons_of_mem _ h')
    have hg := hG g List.mem_cons_self
    have h60 := per60 hg.pos hg.le6
    rw [Sv_cons, Int.mul_add]
    have eo : (occ (g :: G) p : Int) = (occ G p : Int) + if p ∈ g then 1 else 0 := by
      unfold occ
      rw [List.countP_cons]
      by_cases z : p ∈ g <;> simp [z]
    rw [eo]
    by_cases z : p ∈ g
    · simp only [if_pos z, Int.mul_one]
      have h1 : (c : Int) ≤ g.length := by have := hc g List.mem_cons_self z; omega
      have h2 := Int.mul_le_mul_of_nonneg_right h1 (Int.ediv_nonneg (show (0 : Int) ≤ 60 by decide) (Int.le_of_lt hg.pos))
      omega
    · simp only [if_neg z, Int.mul_zero]; omega
theorem Apt.S60 {G : List (List Int)} {D : Ds} (h : Apt G D) (p : Int) : Sv G p ≤ 60 := by
  have h1 := occ_mul G p (occ G p) h.ok fun g hg hp => h.le g hg p hp
  by_cases hz : occ G p = 0
  · have : ∀ g ∈ G, p ∉ g := fun g hg hp => by
      have := List.countP_eq_zero.mp hz g hg
      simp [hp] at this
    rw [Sv_zero this]; decide
  · refine Int.not_lt.mp fun hlt => ?_
    have h0 : (0 : Int) < (occ G p : Int) := by omega
    have := Int.mul_lt_mul_of_pos_left hlt h0
    omega
end K97

-- part K98g
namespace K97
open PySem PySem.Spec PyProof.Rows L2 DL
section
variable {P : Program} {w : World} {K : PySem.W.Frag} {mg : Str → Option Value} {base : Heap}
def spApart : Sp := fun vs H Q _ => ∃ F cs d x m, vs = [.ref d] ∧ Sta F ((d, .lst (Bx.vs x)) :: cs) H ∧ BxOk x m ∧ m ≤ 50000 ∧
  ∀ F' H' x' G v', Le1 F F' → BxOk x' (m + 1000) → Grps G → G.length ≤ 12 → (∀ p, Sv G p ≤ 60) → Sta F' ((d, .lst (Bx.vs x')) :: cs) H' → Is (fz (rL (rL rI))) F' [] v' G → Q v' H'
theorem spApart_len : ∀ vs H Q E, spApart vs H Q E → vs.length = 1 := fun vs H Q E ⟨_, _, _, _, _, e, _⟩ => by rw [e]; rfl
abbrev FApart (P : Program) (w : World) (K : PySem.W.Frag) (mg : Str → Option Value) (base : Heap) : Prop := Fn P w K mg base 3 "_law_apart" sApart ["box"] spApart
theorem fn_apart {f : Addr} {fd : FuncData} (T : Txt4 mg) (cT : FTake P w K mg base) (cM : FMixed P w K mg base) (hF : Fun K "_law_apart" "_law_apart" sApart f fd) (hm : mg "_law_apart" = some (.ref f)) (hb : Binds K fd ["box"] []) : FApart P w K mg base := by
  refine fn_mk hF hm hb scApart spApart_len fun cdv A outer s H vs Q E hr ⟨F, cs, d, x, m, e, S, hx, hm', k⟩ => ?_
  subst e
  refine wss_cons (ws_parT3 rfl scApart.nd (n := 1) (m := 2) (l := 3) rfl rfl rfl (.inl rfl) (.inr rfl) (.inr rfl) ?_)
  refine we_sorted rfl T.sorted (we_slHi (r := rI) (we_callA cM hr (by decide) rfl (wa2 (we_var (n := 0) rfl rfl (GE.run (ge_listRg (i := 30) rfl rfl T.list rfl T.range ge_int (by decide) (by decide)) S fun v1 F1 H1 l1 S1 h1 => ?_)))))
  refine ⟨F1, cs, d, x, m, v1, rng 0 30, rfl, S1, hx, by omega, ⟨h1.h⟩, by decide, fun F2 H2 x2 ys v2 l2 hx2 hp S2 h2 => ?_⟩
  refine GE.runI ge_int S2 fun H3 S3 => ⟨F2, _, ys, 6, rfl, S3, (show Is (rL rI) F2 ((d, .lst (Bx.vs x2)) :: cs) v2 ys from ⟨Stable.up (r := rL rI) (Le.refl _) (Sub.nil _) h2.h⟩).h, fun v4 F4 H4 l4 S4 h4 => ?_⟩
  refine ⟨F4, _, _, S4, h4.un.h, fun v7 F7 H7 l7 S7 h7 => we_nilC S7 fun d2 H8 S8 => we_dnilC S8 fun d3 H9 S9 => fun d4 hd4 => ?_⟩
  rw [show (6 : Int) = ((6 : Nat) : Int) from rfl, cut_hi] at h7
  have hP : Ppl (srt (ys.take 6)) 6 := Ppl.all hp (by decide)
  generalize srt (ys.take 6) = people at h7 hP
  have hPl := hP.l2
  have hP1 := hP.l1
  have hx2 : BxOk x2 (m + 30) := hx2.mono (by rw [rng_length]; omega)
  have S10 : Sta F7 ((d2, .lst []) :: (d3, .dK []) :: (d, .lst (Bx.vs x2)) :: cs) _ := (S9.junk hd4 (.tup [v7, .ref d2, .ref d3])).perm (List.Perm.swap _ _ _)
  refine wss_cons (ws_for (own := [(d2, .lst []), (d3, .dK []), (d, .lst (Bx.vs x2))]) (R := cs) (fun pre F' own' σ' => ∃ x' ws kvs G D a b c e g, own' = [(d2, .lst ws), (d3, .dK kvs), (d, .lst (Bx.vs x'))] ∧ Els (rL rI) F' ws G ∧ Ens rI F' kvs D ∧ Apt G D ∧ G.length ≤ pre.length ∧ BxOk x' (m + 40 + 10 * pre.length) ∧ σ' = [some (.ref d), some v7, some (.ref d2), some (.ref d3), a, b, c, e, g]) PassesOwn.never rfl
    (gi_rng1 rfl T.range ge_int (by decide) (by decide)) S10 (gb_i scApart.nd (i := 4) rfl (.inl rfl)) rfl (fun pre F' own' σ' R' _ hR => Sub.nil _)
    (fun F11 l11 => ⟨x2, [], [], [], [], _, _, _, _, _, rfl, .nil, .nil, Apt.init, Nat.le_refl _, hx2.mono (by simp), rfl⟩) ?_ ?_)
  · rintro pre tn post F12 F13 own' σ' H13 v13 σ1 R' eG l12 l13 hsR hR S13 ⟨x', ws, kvs, G, D, a, b, c, e, g9, rfl, hk, hkd, hA, hGl, hx', rfl⟩ rfl
    have hprel : pre.length ≤ 12 := by
      have := congrArg List.length eG
      rw [rng_length, List.length_append] at this
      have : (12 : Int).toNat = 12 := rfl
      omega
    have S13 : Sta F13 ((d, .lst (Bx.vs x')) :: (d2, .lst ws) :: (d3, .dK kvs) :: R') H13 := S13.perm ((((List.Perm.swap _ _ _).cons _)).trans (List.Perm.swap _ _ _))
    have h7' : ∀ cs, Is (fz (rL rI)) F7 cs v7 people := fun cs => ⟨h7.h⟩
    refine wss_cons (ws_setW scApart.nd (n := 5) rfl (.inr rfl) ?_)
    refine we_draw (xs := people) (many := 6) cM cT hr (by decide) rfl T.sorted rfl rfl rfl rfl (by first | exact Or.inl rfl | exact Or.inr (Or.inl rfl)) S13 hx' (by omega) (ge_v (n := 1) rfl rfl (h7' ((d, .lst (Bx.vs x')) :: (d2, .lst ws) :: (d3, .dK kvs) :: R'))) (by omega) (fun F2 x'' l => ge_int) (by decide) (by decide)
      fun F14 H14 x14 v14 zs z l14 hx14 hp14 hz0 hz1 S14 h14 => ?_
    have hPg : Ppl (srt (zs.take (1 + z).toNat)) (1 + z).toNat := hP.draw hp14 (by omega)
    have hgg : Grp (srt (zs.take (1 + z).toNat)) := hPg.grp (by omega)
    generalize srt (zs.take (1 + z).toNat) = g at h14 hgg
    have hx14 : BxOk x14 (m + 40 + 10 * pre.length + 7) := hx14.mono (by omega)
    have hgl := hgg.le
    have hk14 := Els.up (l13.le.trans l14.le) hk
    have hkd14 := Ens.up (l13.le.trans l14.le) hkd
    have h14' : ∀ cs, Is (fz (rL rI)) F14 cs v14 g := fun cs => ⟨h14.h⟩
    refine wss_cons (ws_setLc (r := rI) (t := rI) (own := [("person", 7)]) (fitF G D g) (fun p => p) rfl scApart.nd (i := 6) rfl rfl (blkOk_by (by kernel_rfl)) (gi_list (ge_v (n := 5) rfl rfl (h14' ((d, .lst (Bx.vs x14)) :: (d2, .lst ws) :: (d3, .dK kvs) :: R')))) (Sub.nil _) (fun _ _ _ _ _ => gb_i scApart.nd (i := 7) rfl (.inr rfl)) (by decide) ?_ ?_ (line60 (by omega)) S14 fun v15 F15 H15 l15 S15 h15 => ?_)
    · rintro F16 v16 p σ16 l16 hp16 rfl s0 H0 C cl fp
      refine gts_one (gt_c (gc_neD (r := rL rI) (hu64 hr) (by decide) (GE.un (ge_lc (r := rL rI) (t := rI) (own := [("other", 8)]) (fun o => decide (p ∈ o) && decide ((o.length : Int) < 1 + (look D p).getD 0)) (fun _ => (1 : Int)) rfl scApart.nd (blkOk_by (by kernel_rfl))
        (gi_list (ge_cat (ge_vc (n := 2) rfl rfl (.tail _ List.mem_cons_self) (Els.up l16.le hk14)) (GE.un (ge_lst (r := rL rI) (ga_cons (ge_v (n := 5) rfl rfl (h14' ((d, .lst (Bx.vs x14)) :: (d2, .lst ws) :: (d3, .dK kvs) :: R'))) ga_nil) (by show 1 ≤ 1000; decide))) (by rw [List.length_singleton]; omega))) (Sub.nil _) (fun _ _ _ _ _ => gb_n (rL rI) scApart.nd (i := 8) rfl (.inl rfl)) (by decide) ?_ ?_ (line60 (by rw [List.length_append, List.length_singleton]; omega)))) (GE.un ge_nil)))
      · rintro F17 v17 o σ17 l17 ho ⟨h17, rfl⟩ s1 H1 C1 cl1 fp1
        exact gts_one (GW.to (gw_and (gt_c (gc_inL (ge_vi (n := 7) rfl rfl) (GE.asQ (ge_v (n := 8) rfl rfl h17)))) fun _ => gw_and1 (gt_c (gc_lt (ge_lenL rfl T.len (ge_v (n := 8) rfl rfl h17)) (ge_add ge_int (ge_get2 (r := rI) (hu1 hr) (ge_vd (n := 3) rfl rfl (.tail _ (.tail _ List.mem_cons_self)) (Ens.up (l16.le.trans l17.le) hkd14)) (ge_vi (n := 7) rfl rfl) ge_int))))))
      · rintro F17 v17 o σ17 l17 ho ⟨h17, rfl⟩ _ s1 H1 C1 cl1 fp1
        exact ge_int
    · rintro F16 v16 p σ16 l16 hp16 rfl _ s0 H0 C cl fp
      exact ge_vi (n := 7) rfl rfl
    rw [List.map_id'] at h15
    have hwl : ws.length = G.length := Paired.length hk
    have hkvl : kvs.length = D.length := Paired.length hkd
    have hDl := hA.len
    have done : (G.length ≤ (pre ++ [tn]).length) := by rw [List.length_append]; omega
    refine wss_one (ws_if (gt_c (gc_eqD (r := rL rI) (hu64 hr) (by decide) (GE.un (ge_v (n := 6) rfl rfl h15)) (GE.un ge_nil))) S15 (fun ho H16 S16 => ?_) (fun ho H16 S16 => ?_))
    · have hfn : g.filter (fitF G D g) = [] := of_decide_eq_true ho
      refine wss_cons (ws_expr (we_append (r := rL rI) (x := g) 1 (m := 2) rfl rfl S16 rfl (ge_v (n := 5) rfl rfl (h14' ((d, .lst (Bx.vs x14)) :: (d2, .lst ws) :: (d3, .dK kvs) :: R'))) (by rw [hwl, sizeLine_eq]; omega) fun v17 F17 H17 l17 S17 h17 => ?_))
      have S17 : Sta F17 ((d3, .dK kvs) :: (d, .lst (Bx.vs x14)) :: (d2, .lst (ws ++ [v17])) :: R') H17 := S17.perm ((((List.Perm.swap _ _ _).cons _)).trans (List.Perm.swap _ _ _))
      have hk17 : Els (rL rI) F17 (ws ++ [v17]) (G ++ [g]) := Paired.app (Els.up (l15.le.trans l17.le) hk14) (.cons h17.h .nil)
      refine wss_one (ws_for (own := [(d3, .dK kvs)]) (R := (d, .lst (Bx.vs x14)) :: (d2, .lst (ws ++ [v17])) :: R') (fun ps F' own' σ' => ∃ kvs D' a, own' = [(d3, .dK kvs)] ∧ Ens rI F' kvs D' ∧ D' = ps.foldl upT D ∧ σ' = [some (.ref d), some v7, some (.ref d2), some (.ref d3), some (.int tn), some v14, some v15, a, g9]) PassesOwn.never rfl
        (gi_list (ge_v (n := 5) rfl rfl (h14' ([(d3, .dK kvs)] ++ (d, .lst (Bx.vs x14)) :: (d2, .lst (ws ++ [v17])) :: R')))) S17 (gb_i scApart.nd (i := 7) rfl (.inl rfl)) rfl (fun pre F' own' σ' R' _ hR => Sub.nil _)
        (fun F18 l18 => ⟨kvs, D, _, rfl, Ens.up (l15.le.trans (l17.le.trans l18.le)) hkd14, rfl, rfl⟩) ?_ ?_)
      · rintro ps p ps2 F18 F19 own8 σ8 H18 v18 σ9 R8 eg l18 l19 hsR8 hR8 S18 ⟨kvs8, D8, a8, rfl, hk8, rfl, rfl⟩ rfl
        have hD8 : DsOk (ps.foldl upT D) := DsOk.fold ps D ⟨hA.nd, hA.bd⟩ fun q hq => hgg.bd q (by rw [eg]; exact List.mem_append_left _ hq)
        have hl8 := hD8.len
        refine wss_one (ws_dput (r := rI) 0 (hu1 hr) (m := 3) rfl rfl S18 rfl (ge_add (ge_get2 (r := rI) (hu1 hr) (ge_vd (n := 3) rfl rfl List.mem_cons_self (Ens.up l19.le hk8)) (ge_vi (n := 7) rfl rfl) ge_int) ge_int) (ge_vi (n := 7) rfl rfl) (by rw [show kvs8.length = _ from Paired.length hk8, sizeLine_eq]; omega) fun v20 F20 H20 l20 S20 h20 => ⟨F20, _, l20.le, S20, _, _, _, rfl, (Ens.up (l19.le.trans l20.le) hk8).put h20.h, ?_, rfl⟩)
        rw [List.foldl_append]; rfl
      · rintro F18 own8 σ8 H18 R8 l18 hsR8 hR8 S18 ⟨kvs8, D8, a8, rfl, hk8, rfl, rfl⟩
        have S19 : Sta F18 ((d2, .lst (ws ++ [v17])) :: (d3, .dK kvs8) :: (d, .lst (Bx.vs x14)) :: R') H18 := (S18.sub (List.Sublist.cons₂ _ hR8)).perm ((((List.Perm.swap _ _ _).cons _)).trans (List.Perm.swap _ _ _))
        exact ⟨F18, [(d2, .lst (ws ++ [v17])), (d3, .dK kvs8), (d, .lst (Bx.vs x14))], l14.le.trans (l15.le.trans (l17.le.trans l18.le)), S19, x14, _, _, G ++ [g], _, _, _, _, _, _, rfl, Els.up l18.le hk17, hk8, hA.add hgg hfn, by rw [List.length_append, List.length_append, List.length_singleton, List.length_singleton]; omega, hx14.mono (by rw [List.length_append, List.length_singleton]; omega), rfl⟩
    · have S17 : Sta F15 ((d2, .lst ws) :: (d3, .dK kvs) :: (d, .lst (Bx.vs x14)) :: R') H16 := S16.perm ((List.Perm.swap _ _ _).trans (((List.Perm.swap _ _ _).cons _)))
      exact wss_nil ⟨F15, [(d2, .lst ws), (d3, .dK kvs), (d, .lst (Bx.vs x14))], l14.le.trans l15.le, S17, x14, ws, kvs, G, D, _, _, _, _, _, rfl, Els.up l15.le hk14, Ens.up l15.le hkd14, hA, done, hx14.mono (by rw [List.length_append, List.length_singleton]; omega), rfl⟩
  · rintro F12 own' σ' H13 R' l12 hsR hR S13 ⟨x', ws, kvs, G, D, a, b, c, e, g9, rfl, hk, hkd, hA, hGl, hx', rfl⟩
    have hGl : G.length ≤ 12 := by rw [rng_length] at hGl; exact hGl
    have S14 : Sta F12 ((d2, .lst ws) :: (d, .lst (Bx.vs x')) :: R') H13 := S13.sub (List.Sublist.cons₂ _ (List.sublist_cons_self _ _))
    obtain ⟨F6, l6, S6, h6⟩ := frzL S14 hk
    refine wss_one (ws_retW (we_var (n := 2) rfl rfl (k F6 _ x' G _ ?_ (hx'.mono (by rw [rng_length]; have : ((12 : Int).toNat : Int) = 12 := rfl; omega)) ⟨by omega, hA.ok⟩ hGl hA.S60 (S6.sub (List.Sublist.cons₂ _ hR)) ⟨h6.h⟩)))
    exact l1.tr (l2.tr (l4.tr (l7.tr (l12.tr l6))))
end
end K97

-- part DLo
/-! DL, fifteenth part: keywords, dict(pairs), a comprehension over what a call tells. -/
namespace DL
open PySem PySem.Spec PyProof.Rows L2
section
variable {X : Cx} {σ : Sl} {F F0 : Hp} {cs cs0 : Cs} {H : Hp} {e a b c tg iter elt : Expr} {ifs : List Expr} {scope : Scope} {pos : Pos} {α β γ : Type} {r : Rep α} {t : Rep β} {m : Rep γ} {x : α} {y : β} {D : Ends} {Q : VK} {B : Hp → V → α → Sl → Sl → Prop} {is : List Nat} {own : List (Str × Nat)}
variable {k l : Nat} {z kn : Str} {st : Stmt} {ps : List Str} {pp kpos : Pos}
/-- f(k = e): one keyword, one parameter -/
theorem we_callK1 {pre : α → Prop} {post : α → γ → Prop} (c : Fn X.prog X.w X.K X.mg X.base k z st [kn] (sp1 r m pre post)) (hr : Room l X.A) (hg : Gl X z) (ha : GE X σ F cs a r x) (S : Sta F cs H) (hp : pre x) (q : ∀ y v F2 H2, Le1 F F2 → Sta F2 cs H2 → Is m F2 [] v y → post x y → Q v H2)
    (hb : ∀ (kV doc pm : Value) (an : Option Addr) (cdv ct : Value) (ws : List Value), ws.length = 1 → bindArgs (PySem.W.fnOf z z (defArgs st) (defBody st) (defScope st) .none kV doc pm an cdv ct) ⟨[], [kn].zip ws⟩ = pure ([kn].zip ws)) (hk : k ≤ l := by decide)
    (hall : (backToKw pos (keywordEach [⟨some kn, a, kpos⟩] X.env)).all (·.1.isSome) = true := by rfl) (hks : (backToKw pos (keywordEach [⟨some kn, a, kpos⟩] X.env)).filterMap (·.1) = [kn] := by rfl) (hdb : (z == ("__debug__" : Str)) = false := by decide)
    (hpl : ((backTo pos (starEach [] X.env)).any (·.1) || (backToKw pos (keywordEach [⟨some kn, a, kpos⟩] X.env)).any (·.1.isNone)) = false := by rfl) : WE X (.Call (.Name z pp) [] [⟨some kn, a, kpos⟩] pos) σ H Q :=
  we_callK [kn] (fun ws => ws) (fun vs => vs) c hr hk hg (pk_cons peW pk_nil) (fun kV doc pm an cdv ct ws hl => hb kV doc pm an cdv ct ws hl) (fun h => h)
    (ha F cs H _ (Le.refl _) (Sub.refl _) S fun v F2 H2 l2 S2 h2 => ⟨F2, cs, v, x, rfl, S2, ⟨h2⟩, hp, fun y v' F' H' l3 S3 h3 e3 => q y v' F' H' (l2.one.tr l3) S3 h3 e3⟩) hall hks hdb hpl
theorem ge_callK1 {w : γ} {pre : α → Prop} {post : α → γ → Prop} [Stable m] (c : Fn X.prog X.w X.K X.mg X.base k z st [kn] (sp1 r m pre post)) (hr : Room l X.A) (hg : Gl X z) (ha : GE X σ F cs a r x) (hp : pre x) (hy : ∀ y, post x y → y = w)
    (hb : ∀ (kV doc pm : Value) (an : Option Addr) (cdv ct : Value) (ws : List Value), ws.length = 1 → bindArgs (PySem.W.fnOf z z (defArgs st) (defBody st) (defScope st) .none kV doc pm an cdv ct) ⟨[], [kn].zip ws⟩ = pure ([kn].zip ws)) (hk : k ≤ l := by decide)
    (hall : (backToKw pos (keywordEach [⟨some kn, a, kpos⟩] X.env)).all (·.1.isSome) = true := by rfl) (hks : (backToKw pos (keywordEach [⟨some kn, a, kpos⟩] X.env)).filterMap (·.1) = [kn] := by rfl) (hdb : (z == ("__debug__" : Str)) = false := by decide)
    (hpl : ((backTo pos (starEach [] X.env)).any (·.1) || (backToKw pos (keywordEach [⟨some kn, a, kpos⟩] X.env)).any (·.1.isNone)) = false := by rfl) : GE X σ F cs (.Call (.Name z pp) [] [⟨some kn, a, kpos⟩] pos) (fz m) w := fun F1 cs1 H Q l1 u1 S q =>
  we_callK1 c hr hg (GE.up ha) S hp (fun y v F2 H2 l2 S2 h2 e2 => by
    have := hy _ e2; subst this; exact q v F2 H2 l2.le S2 h2.h) hb hk hall hks hdb hpl
/-- dict(pairs), the keys ints that are all apart -/
theorem mergeK_new : ∀ (kvs acc : List (Key × V)), ((acc ++ kvs).map (·.1)).Nodup → mergeK acc kvs = acc ++ kvs
  | [], acc, _ => by rw [List.append_nil]; rfl
  | p :: kvs, acc, h => by
    have hn : acc.any (fun q => decide (q.1 = p.1)) = false := by
      cases hb : acc.any (fun q => decide (q.1 = p.1)) with
      | false => rfl
      | true =>
        obtain ⟨q, hq, e⟩ := List.any_eq_true.mp hb
        rw [List.map_append, List.nodup_append] at h
        exact absurd (of_decide_eq_true e) (h.2.2 q.1 (List.mem_map.mpr ⟨q, hq, rfl⟩) p.1 (by simp))
    have e : putK acc p.1 p.2 = acc ++ [p] := by
      unfold putK
      first
        | (rw [hn]; rfl)
        | (rw [if_neg (by rw [hn]; exact Bool.false_ne_true)])
    show mergeK (putK acc p.1 p.2) kvs = _
    rw [e, mergeK_new kvs (acc ++ [p]) (by rw [List.append_assoc]; exact h), List.append_assoc]
    rfl
theorem ge_dictP {xs : List (Int × α)} [s : Stable r] (hc : X.calm = true) (hg : Gl X "dict") (hm : X.mg "dict" = none) (ha : GE X σ F cs a (fz (rL (rT2 rI r))) xs) (hnd : (xs.map (·.1)).Nodup)
    (he : starEach [a] X.env = (false, eval a X.env) :: starEach [] X.env := by rfl) (hpl : (backTo pos (starEach [] X.env)).any (·.1) = false := by rfl) : GE X σ F cs (.Call (.Name "dict" pp) [a] [] pos) (fz (rD r)) xs := fun F1 cs1 H Q l1 u1 S q =>
  weB (pe_callTy (call_dictP hc) hg hm boot_dictT (pa_cons peW pa_nil he) (by decide) (by decide) he hpl) (ha F1 cs1 H _ l1 u1 S fun v F2 H2 l2 S2 ⟨w, vs, ev, h, hp⟩ => by
    have key : ∀ {vs : List V} {xs : List (Int × α)}, Els (rT2 rI r) F2 vs xs → ∃ (qs : List Addr) (kvs : List (Key × V)), vs = qs.map V.ref ∧ Paired (fun p kv => SqT X.K H2 p [kV kv.1, kv.2]) qs kvs ∧ Ens r F2 kvs xs ∧ kvs.map (·.1) = xs.map (fun e => Sum.inl e.1) := by
      intro vs xs hp
      induction hp with
      | nil => exact ⟨[], [], rfl, .nil, .nil, rfl⟩
      | @cons v x _ _ h _ ih =>
        obtain ⟨qs, kvs, e1, e2, e3, e4⟩ := ih
        obtain ⟨a, u, w, rfl, ha, hu, hw⟩ := h
        obtain rfl : u = .int x.1 := hu
        exact ⟨a :: qs, (.inl x.1, w) :: kvs, by rw [e1]; rfl, .cons (S2.sqT ha) e2, .cons ⟨rfl, hw⟩ e3, by rw [List.map_cons, List.map_cons, e4]⟩
    obtain ⟨qs, kvs, e1, e2, e3, e4⟩ := key hp
    refine ⟨w, qs, kvs, by rw [ev], by rw [← e1]; exact S2.sqL (h.imp id (fun z => nomatch z)), e2, fun d hd => ?_⟩
    have hm : mergeK [] kvs = kvs := by
      rw [mergeK_new kvs [] (by
        rw [List.nil_append, e4]
        rw [show (xs.map fun e => (Sum.inl e.1 : Key)) = (xs.map (·.1)).map Sum.inl by rw [List.map_map]; rfl]
        exact List.pairwise_map.mpr (hnd.imp fun h e => h (Sum.inl.inj e)))]
      rfl
    rw [hm]
    exact q _ _ _ (l2.trans (S2.new hd _).1.le) (S2.new hd _).2 ⟨d, kvs, rfl, .inl upd_same, Ens.up (S2.new hd _).1.le e3⟩)
/-- a list that a call tells -/
theorem giw_list [s : Stable r] {E : List α → Prop} (ha : WE X e σ H fun v H1 => ∃ F1 xs, Le F F1 ∧ Sta F1 cs H1 ∧ rL r F1 [] v xs ∧ E xs) : GIw X σ F cs H tg e r E :=
  wiB (pi_list peW) (ha.mono fun v H2 ⟨F2, xs, l2, S2, ⟨w, vs, ev, h, hp⟩, hE⟩ => by
    refine ⟨w, ev, ⟨vs, S2.sqL (h.imp id (fun z => nomatch z))⟩, ?_⟩
    refine ⟨xs, [], [], F2, hE, l2, by rw [List.append_nil]; exact S2, Sub.nil _, ?_⟩
    intro F' cs' H' l3 u3 S3 n
    have hr : Rd H' w (.lst vs) := .inl (S3.rd (h.imp (l3.h _ _) (fun z => nomatch z)))
    refine ⟨fun x hx => ?_, fun hn => ⟨vs, .inl hr, paired_none hp hn⟩⟩
    obtain ⟨y, h1, h2⟩ := Paired.get1 hp hx
    exact ⟨⟨vs, y, .inl hr, h1⟩, fun v H'' ⟨eH, hv⟩ => ⟨F', Le.refl _, by rw [eH]; exact S3, by
      have := hv vs (.inl hr)
      rw [h1] at this
      rw [← Option.some.inj this]
      exact s.up l3 (Sub.refl _) h2⟩⟩)
/-- [.. for .. if ..] over what a call tells -/
theorem we_lcW {E : List α → Prop} (p : α → Bool) (g : α → β) [s : Stable r] [z : Stable t] (hc : X.calm = true) (hN : X.N.Nodup) (ok : BlkOk X.N X.env.scope scope own) (hi : GIw X σ F cs H tg iter r E)
    (hb : ∀ (s : Shared) (H0 : Hp) (C : Addr) (cl : List (Str × Addr)) (fp : List Addr), GB (X.blk s H0 scope (compEnvC scope cl C X.env) fp) tg r B is) (his : ∀ i ∈ is, i ∈ own.map (·.2))
    (ht : ∀ (F1 : Hp) (v : V) (x : α) (σ1 : Sl), Le1 F F1 → B F1 v x (wipe σ (own.map (·.2))) σ1 → ∀ (s : Shared) (H0 : Hp) (C : Addr) (cl : List (Str × Addr)) (fp : List Addr), GTs (X.blk s H0 scope (compEnvC scope cl C X.env) fp) σ1 F1 cs ifs (p x))
    (he : ∀ (F1 : Hp) (v : V) (x : α) (σ1 : Sl), Le1 F F1 → B F1 v x (wipe σ (own.map (·.2))) σ1 → p x = true → ∀ (s : Shared) (H0 : Hp) (C : Addr) (cl : List (Str × Addr)) (fp : List Addr), GE (X.blk s H0 scope (compEnvC scope cl C X.env) fp) σ1 F1 cs elt (fz t) (g x))
    (hz : ∀ xs, E xs → xs.length ≤ sizeLine) (k : ∀ xs v F2 H2, E xs → Le1 F F2 → Sta F2 cs H2 → Is (fz (rL t)) F2 cs v ((xs.filter p).map g) → Q v H2) (hs : ∀ x, foldedSetIterable iter X.env x = pure x := by intro _; rfl) : WE X (.ListComp elt [⟨tg, iter, ifs, 0⟩] scope pos) σ H Q := by
  suffices key : tLc (WI X tg iter) (bWG X scope tg) (bWT X scope ifs) (bWE X scope elt) (own.map (·.2)) σ H Q from weB (pe_lc hc hN piW ok bpg bpt bpe hs) key
  refine hi.mono fun J H2 ⟨xs, pre, c1, F2, hE, l2, S2, hsub, hw⟩ D hD => ?_
  have uc : Sub c1 (cs ++ pre) := hsub.trans ⟨fun q hq => by
    rcases List.mem_append.mp hq with h | h
    · exact List.mem_append_left _ (frzs_sub.h _ h)
    · exact List.mem_append_right _ h⟩
  have hzx := hz xs hE
  refine ⟨fun i m H' => m = xs.length - i ∧ i ≤ xs.length ∧ ∃ F' acc, Le F2 F' ∧ Sta F' ((D, .lst acc) :: (cs ++ pre)) H' ∧ Els t F' acc (((xs.take i).filter p).map g), ⟨xs.length, by omega, Nat.zero_le _, F2, [], Le.refl _, S2.cell hD _, .nil⟩, ?_⟩
  rintro i m H' ⟨rfl, hle, F', acc, l3, S3, hacc⟩
  have hwi := hw F' ((D, .lst acc) :: (cs ++ pre)) H' l3 (uc.trans ⟨fun q hq => List.mem_cons_of_mem _ hq⟩) S3 i
  by_cases hlt : i < xs.length
  · have hx : xs[i]? = some xs[i] := List.getElem?_eq_getElem hlt
    generalize xs[i] = x at hx
    have hxm : x ∈ xs := List.mem_of_getElem? hx
    obtain ⟨hgo, hyld⟩ := hwi.1 x hx
    refine .inr ⟨hgo, fun H'' => ∃ F' acc, Le F2 F' ∧ Sta F' ((D, .lst acc) :: (cs ++ pre)) H'' ∧ Els t F' acc (((xs.take (i + 1)).filter p).map g), fun H'' q => ⟨xs.length - (i + 1), by omega, rfl, hlt, q⟩, fun v H'' hy => ?_⟩
    obtain ⟨F3, l4, S4, hr⟩ := hyld v H'' hy
    intro s0 H0 C cl fp
    refine (hb s0 H0 C cl fp).run F3 _ H'' v x (wipe σ (own.map (·.2))) _ S4 hr ?_
    intro σ1 b1
    refine ⟨((hb s0 H0 C cl fp).own F3 v x _ _ (own.map (·.2)) his b1).trans (wipe_wipe σ (own.map (·.2))), ?_⟩
    have l5 : Le F F3 := l2.trans (l3.trans l4)
    have uu : Sub cs ((D, .lst acc) :: (cs ++ pre)) := ⟨fun q hq => List.mem_cons_of_mem _ (List.mem_append_left _ hq)⟩
    intro s1 H1 C1 cl1 fp1
    refine ht F3 v x σ1 l5.one b1 s1 H1 C1 cl1 fp1 F3 _ H'' _ (Le.refl _) uu S4 fun F4 H4 l6 S5 => ?_
    cases hp : p x with
    | false =>
      rw [if_neg Bool.false_ne_true]
      refine ⟨F4, acc, l3.trans (l4.trans l6), S5, ?_⟩
      rw [take_succ_get hx, List.filter_append, List.map_append]
      have : (([x] : List α).filter p).map g = [] := by rw [List.filter_cons_of_neg (by rw [hp]; exact Bool.false_ne_true)]; rfl
      rw [this, List.append_nil]
      exact Els.up (l4.trans l6) hacc
    | true =>
      rw [if_pos rfl]
      intro s2 H2' C2 cl2 fp2
      refine he F3 v x σ1 l5.one b1 hp s2 H2' C2 cl2 fp2 F4 _ H4 _ l6 uu S5 fun y F5 H5 l7 S6 hy => ?_
      have hlen : acc.length < sizeLine := by
        have h1 := Els.len hacc
        have h2 : (((xs.take i).filter p).map g).length ≤ i := by
          rw [List.length_map]
          exact Nat.le_trans (List.length_filter_le _ _) (by rw [List.length_take]; exact Nat.min_le_left _ _)
        omega
      refine ⟨acc, S6.has _ List.mem_cons_self, hlen, F5, acc ++ [y], l3.trans (l4.trans (l6.trans l7)), S6.set (i := 0) rfl (fun ob u e => by cases e), ?_⟩
      rw [take_succ_get hx, List.filter_append, List.map_append]
      have : (([x] : List α).filter p).map g = [g x] := by rw [List.filter_cons_of_pos hp]; rfl
      rw [this]
      exact Paired.app (Els.up (l4.trans (l6.trans l7)) hacc) (.cons hy .nil)
  · have ei : i = xs.length := by omega
    subst ei
    refine .inl ⟨hwi.2 (Nat.le_refl _), ?_⟩
    rw [List.take_length] at hacc
    obtain ⟨F6, l6, S6, h6⟩ := frzL (S3.sub (List.Sublist.cons_cons _ (List.sublist_append_left cs pre))) hacc
    exact k xs _ F6 H' hE (l2.trans (l3.trans l6.le)).one S6 h6
theorem we_and {rest : List Expr} (h : WE X a σ H fun v H1 => ∃ p : Bool, v = .bl p ∧ (if p = true then WE X (.BoolOp .And (b :: rest) pos) σ H1 Q else Q (.bl false) H1)) : WE X (.BoolOp .And (a :: b :: rest) pos) σ H Q :=
  weB (pe_and peW peW) (h.mono fun v H1 ⟨p, e, q⟩ => ⟨p, e, q⟩)
theorem we_and1 {op : BoolOp} (h : WE X a σ H Q) : WE X (.BoolOp op [a] pos) σ H Q := weB (pe_one peW) h
theorem we_eq (ha : WE X a σ H fun v H1 => ∃ i, v = .int i ∧ WE X b σ H1 fun w H2 => ∃ j, w = .int j ∧ Q (.bl (decide (i = j))) H2) (hm : behindInMarks .Eq b = false := by first | exact nomark _ | rfl) : WE X (.Compare a [.Eq] [b] pos) σ H Q :=
  weB (pe_cmp pcW hm) (wcB (pc_op op_eq peW peW) (ha.mono fun v H1 ⟨i, e1, q⟩ => q.mono fun w H2 ⟨j, e2, q⟩ => by
    rw [e1, e2]
    exact ⟨rfl, by rw [int_eq]; exact q⟩))
theorem we_len {pp : Pos} (hg : Gl X "len") (hm : X.mg "len" = none) (ha : WE X a σ H fun v H1 => ∃ (F1 : Hp) (cs1 : Cs) (xs : List α), Sta F1 cs1 H1 ∧ rL r F1 cs1 v xs ∧ Q (.int (xs.length : Int)) H1)
    (he : starEach [a] X.env = (false, eval a X.env) :: starEach [] X.env := by rfl) (hpl : (backTo pos (starEach [] X.env)).any (·.1) = false := by rfl) : WE X (.Call (.Name "len" pp) [a] [] pos) σ H Q :=
  weB (pe_callB call_len_seq hg hm PySem.boot_len (pa_cons peW pa_nil he) (by decide) (by decide) he hpl) (ha.mono fun v H1 ⟨F1, cs1, xs, S1, ⟨w, vs, e, h, hp⟩, q⟩ => ⟨w, vs, by rw [e], .inl (S1.sqL h), by rw [Els.len hp]; exact q⟩)
end
end DL

-- part K98h
namespace K97
open PySem PySem.Spec PyProof.Rows L2 DL
abbrev sUp : Stmt := topS 48
abbrev sDeals : Stmt := topS 49
theorem scUp : FnScope ["top", "bottom"] ["top", "bottom"] (defScope sUp) := ⟨rfl, rfl, rfl, by decide +kernel, rfl, by decide +kernel, by decide +kernel⟩
theorem scDeals : FnScope ["groups", "by_name", "rows", "most", "fair", "person", "able", "deal", "top", "bottom", "group", "duty"] ["groups", "by_name"] (defScope sDeals) := ⟨rfl, rfl, rfl, by decide +kernel, rfl, by decide +kernel, by decide +kernel⟩
def upB (s : Int × Int) : Int := (s.1 + s.2 - 1) / s.2
theorem up_ok {s : Int × Int} {S : Int} (h : Shr s S) : S + 0 ≤ 60 * upB s ∧ 60 * upB s ≤ S + 59 := by
  have h0 := h.pos
  have hv := h.val
  have h1 := Int.mul_ediv_add_emod (s.1 + s.2 - 1) s.2
  have h2 := Int.emod_nonneg (s.1 + s.2 - 1) (show s.2 ≠ 0 by omega)
  have h3 := Int.emod_lt_of_pos (s.1 + s.2 - 1) h0
  unfold upB
  generalize (s.1 + s.2 - 1) / s.2 = q at *
  generalize (s.1 + s.2 - 1) % s.2 = m at *
  have e : (60 * q - S) * s.2 = 60 * (s.2 - 1 - m) := by
    rw [Int.sub_mul, ← hv, Int.mul_assoc, Int.mul_comm q s.2]
    omega
  constructor
  · have : 0 ≤ 60 * q - S := Int.not_lt.mp fun z => by
      have := Int.mul_neg_of_neg_of_pos z h0
      omega
    omega
  · have : 60 * q - S < 60 := Int.not_le.mp fun z => by
      have := Int.mul_le_mul_of_nonneg_right z (Int.le_of_lt h0)
      omega
    omega
/-- how often at most -/
def mostM (G : List (List Int)) : List (Int × Int) := (srtK (sharesM G)).map fun e => (e.1, upB e.2)
theorem mem_mostM {G : List (List Int)} {e : Int × Int} : e ∈ mostM G ↔ ∃ s ∈ sharesM G, e = (s.1, upB s.2) := by
  unfold mostM
  rw [List.mem_map]
  exact ⟨fun ⟨s, hs, ee⟩ => ⟨s, (srtK_perm _).mem_iff.mp hs, ee.symm⟩, fun ⟨s, hs, ee⟩ => ⟨s, (srtK_perm _).mem_iff.mpr hs, ee.symm⟩⟩
theorem most_keys {G : List (List Int)} : keys (mostM G) = keys (srtK (sharesM G)) := by
  unfold mostM keys
  rw [List.map_map]; rfl
theorem most_nd {G : List (List Int)} (hG : ∀ g ∈ G, Grp g) : (keys (mostM G)).Nodup := by
  rw [most_keys]
  exact (((srtK_perm (sharesM G)).map _).nodup_iff).mpr (allShr G hG).2.1
theorem most_len {G : List (List Int)} (hG : ∀ g ∈ G, Grp g) : (mostM G).length ≤ 30 := by
  unfold mostM
  rw [List.length_map, (srtK_perm _).length_eq]
  exact (allShr G hG).len
theorem most_at {G : List (List Int)} (hG : ∀ g ∈ G, Grp g) {p : Int} (hp : p ∈ keys (mostM G)) : look (mostM G) p = some (bv (mostM G) p) ∧ Sv G p ≤ 60 * bv (mostM G) p := by
  have h1 := bv_mem hp
  refine ⟨h1, ?_⟩
  obtain ⟨s, hs, e⟩ := mem_mostM.mp (look_mem h1)
  have e1 : p = s.1 := congrArg Prod.fst e
  have e2 : bv (mostM G) p = upB s.2 := congrArg Prod.snd e
  have := (up_ok (share_of hG hs)).1
  rw [e2, e1]; omega
theorem most_has {G : List (List Int)} {p : Int} {g : List Int} (hg : g ∈ G) (hp : p ∈ g) : p ∈ keys (mostM G) := by
  obtain ⟨e, he, ee⟩ := List.mem_map.mp ((shares_keys G p).mpr ⟨g, hg, hp⟩)
  exact List.mem_map.mpr ⟨_, mem_mostM.mpr ⟨e, he, rfl⟩, ee⟩
/-- the duties that a group is -/
def rowM (G : List (List Int)) (g : List Int) : List Int := srt (g ++ (g.filter fun p => decide (1 < bv (mostM G) p)).map fun p => p + 30)
def ableM (G : List (List Int)) : List (List Int) := G.map (rowM G)
theorem row_mem {G : List (List Int)} {g : List Int} {d : Int} : d ∈ rowM G g ↔ d ∈ g ∨ ∃ p ∈ g, 1 < bv (mostM G) p ∧ d = p + 30 := by
  unfold rowM
  rw [srt_mem, List.mem_append, List.mem_map]
  constructor
  · rintro (h | ⟨p, hp, e⟩)
    · exact .inl h
    · obtain ⟨h1, h2⟩ := List.mem_filter.mp hp
      exact .inr ⟨p, h1, of_decide_eq_true h2, e.symm⟩
  · rintro (h | ⟨p, h1, h2, e⟩)
    · exact .inl h
    · exact .inr ⟨p, List.mem_filter.mpr ⟨h1, decide_eq_true h2⟩, e.symm⟩
theorem row_ok {G : List (List Int)} {g : List Int} (hg : Grp g) : Row (rowM G g) := by
  have nd : (g ++ (g.filter fun p => decide (1 < bv (mostM G) p)).map fun p => p + 30).Nodup := by
    rw [List.nodup_append]
    refine ⟨hg.nd, List.pairwise_map.mpr ((hg.nd.sublist List.filter_sublist).imp fun h e => h (by omega)), fun a ha b hb e => ?_⟩
    obtain ⟨p, hp, rfl⟩ := List.mem_map.mp hb
    have := hg.bd a ha
    have := hg.bd p (List.mem_filter.mp hp).1
    omega
  refine ⟨?_, fun x hx => ?_⟩
  · exact ((srt_sorted _).and ((srt_perm _).nodup_iff.mpr nd)).imp fun ⟨h1, h2⟩ => by omega
  · rcases row_mem.mp hx with h | ⟨p, h, _, e⟩
    · have := hg.bd x h; omega
    · have := hg.bd p h; omega
theorem able_ok {G : List (List Int)} (h : Grps G) : Able (ableM G) := ⟨by unfold ableM; rw [List.length_map]; exact h.le, fun r hr => by
  obtain ⟨g, hg, rfl⟩ := List.mem_map.mp hr
  exact row_ok (h.ok g hg)⟩
/-- a duty of its own for each group -/
def sdrM (T : List Int) : List Int := (List.range T.length).map fun k => T.getD k 0 + 30 * (((T.take k).count (T.getD k 0) : Nat) : Int)
theorem sdr_get {T : List Int} {k : Nat} {d : Int} (h : (sdrM T)[k]? = some d) : ∃ p, T[k]? = some p ∧ d = p + 30 * (((T.take k).count p : Nat) : Int) := by
  unfold sdrM at h
  rw [List.getElem?_map] at h
  have hk : k < T.length := by
    rcases Nat.lt_or_ge k T.length with z | z
    · exact z
    · rw [List.getElem?_eq_none (by rw [List.length_range]; exact z)] at h; cases h
  rw [List.getElem?_range hk] at h
  refine ⟨T[k], List.getElem?_eq_getElem hk, ?_⟩
  have e : T.getD k 0 = T[k] := by rw [List.getD_eq_getElem?_getD, List.getElem?_eq_getElem hk]; rfl
  have : T.getD k 0 + 30 * (((T.take k).count (T.getD k 0) : Nat) : Int) = d := Option.some.inj h
  rw [← this, e]
theorem take_count {T : List Int} {k : Nat} {p : Int} (h : T[k]? = some p) : (T.take k).count p + 1 = (T.take (k + 1)).count p := by
  rw [take_succ_get h, List.count_append]
  simp
theorem take_mono {T : List Int} {i j : Nat} (h : i ≤ j) (p : Int) : (T.take i).count p ≤ (T.take j).count p := by
  have : T.take i = (T.take j).take i := by rw [List.take_take, Nat.min_eq_left h]
  rw [this]
  exact (List.take_sublist _ _).count_le _
theorem sdr_nd {T : List Int} (hb : ∀ p ∈ T, 0 ≤ p ∧ p ≤ 29) : (sdrM T).Nodup := by
  refine List.pairwise_iff_getElem.mpr fun i j hi hj hij e => ?_
  obtain ⟨p, hp, e1⟩ := sdr_get (List.getElem?_eq_getElem hi)
  obtain ⟨q, hq, e2⟩ := sdr_get (List.getElem?_eq_getElem hj)
  rw [e1, e2] at e
  have := hb p (List.mem_of_getElem? hp)
  have := hb q (List.mem_of_getElem? hq)
  have hpq : p = q := by omega
  subst hpq
  have h1 := take_count hp
  have h2 := take_mono (T := T) (show i + 1 ≤ j by omega) p
  omega
theorem sdr_in {G : List (List Int)} {T : List Int} (hG : Grps G) (hF : FairT G T) (h2 : ∀ p ∈ keys (mostM G), bv (mostM G) p ≤ 2) {k : Nat} {d : Int} (h : (sdrM T)[k]? = some d) : d ∈ rowAt (ableM G) k := by
  obtain ⟨p, hp, e⟩ := sdr_get h
  have hlt : k < G.length := by rw [← hF.tak.1]; exact (List.getElem?_eq_some_iff.mp hp).1
  have hg : G[k]? = some G[k] := List.getElem?_eq_getElem hlt
  have hpg := hF.tak.2 k p _ hp hg
  have hgm : G[k] ∈ G := List.getElem_mem hlt
  have hk := most_has hgm hpg
  obtain ⟨_, hS⟩ := most_at hG.ok hk
  have hle := hF.le p
  have h2p := h2 p hk
  have hcn : cn T p ≤ bv (mostM G) p := by omega
  have hc1 := take_count hp
  have hc2 : (T.take (k + 1)).count p ≤ T.count p := (List.take_sublist _ _).count_le _
  have hrow : rowAt (ableM G) k = rowM G G[k] := rowAt_nat (by unfold ableM; rw [List.getElem?_map, hg]; rfl)
  rw [hrow, row_mem]
  unfold cn at hcn
  rcases Nat.eq_zero_or_pos ((T.take k).count p) with z | z
  · left
    rw [z] at e
    rw [show d = p by simpa using e]
    exact hpg
  · right
    refine ⟨p, hpg, by omega, ?_⟩
    have : (T.take k).count p = 1 := by omega
    rw [this] at e
    simpa using e
section
variable {P : Program} {w : World} {K : PySem.W.Frag} {mg : Str → Option Value} {base : Heap}
abbrev FUp (P : Program) (w : World) (K : PySem.W.Frag) (mg : Str → Option Value) (base : Heap) : Prop := Fn P w K mg base 1 "_law_up" sUp ["top", "bottom"] (sp2 rI rI rI (fun _ b => 0 < b ∧ b ≤ 60) (fun t b y => y = upB (t, b)))
theorem fn_up {f : Addr} {fd : FuncData} (hF : Fun K "_law_up" "_law_up" sUp f fd) (hm : mg "_law_up" = some (.ref f)) (hb : Binds K fd ["top", "bottom"] []) : FUp P w K mg base := by
  refine fn_mk hF hm hb scUp sp2_len fun cdv A outer s H vs Q E hr ⟨F, cs, v, t, v2, b, e, S, ⟨hv⟩, ⟨hv2⟩, ⟨hb0, hb1⟩, k⟩ => ?_
  subst e
  obtain rfl : v = .int t := hv
  obtain rfl : v2 = .int b := hv2
  exact wss_one (ws_retI (ge_fdiv (ge_sub (ge_add (ge_vi (n := 0) rfl rfl) (ge_vi (n := 1) rfl rfl)) ge_int) (ge_vi (n := 1) rfl rfl) ⟨hb0, by omega⟩) S fun H2 S2 => k _ _ F H2 (Le.refl _).one S2 ⟨rfl⟩ rfl)
end
end K97

-- part K98i
namespace K97
open PySem PySem.Spec PyProof.Rows L2 DL
section
variable {P : Program} {w : World} {K : PySem.W.Frag} {mg : Str → Option Value} {base : Heap}
abbrev FDeals (P : Program) (w : World) (K : PySem.W.Frag) (mg : Str → Option Value) (base : Heap) : Prop := Fn P w K mg base 7 "_law_deals_right" sDeals ["groups", "by_name"] (sp2 (fz (rL (rL rI))) rB rB (fun G _ => Grps G) (fun _ _ b => b = true))
theorem fn_deals {f : Addr} {fd : FuncData} (T : Txt4 mg) (cS : FShares P w K mg base) (cU : FUp P w K mg base) (cF : FFairTurns P w K mg base) (cI : FIsFair P w K mg base) (cM : FMostDone P w K mg base) (cD : FIsDone P w K mg base) (hF : Fun K "_law_deals_right" "_law_deals_right" sDeals f fd) (hm : mg "_law_deals_right" = some (.ref f)) (hb : Binds K fd ["groups", "by_name"] []) : FDeals P w K mg base := by
  refine fn_mk hF hm hb scDeals sp2_len fun cdv A outer s H vs Q E hr ⟨F, cs, v, G, v2, by_, e, S, hv, ⟨hv2⟩, hg, k⟩ => ?_
  subst e
  obtain rfl : v2 = .bl by_ := hv2
  have hGl := hg.le
  have hA := allShr G hg.ok
  have hAl := hA.len
  refine wss_cons (ws_set (r := fz (rL (rT3 rI rI rI))) (x := sharesL G) (n := 2) scDeals.nd rfl (.inl rfl) (DL.ge_if (p := by_) (gt_of (ge_vb (n := 1) rfl rfl)) (fun _ => ge_call1 cS hr rfl (ge_v (n := 0) rfl rfl hv) hg fun _ h => h)
    (fun _ => ge_callK1 cS hr rfl (ge_v (n := 0) rfl rfl hv) hg (fun _ h => h) (fun _ _ _ _ _ _ ws hl => match ws, hl with | [_], _ => rfl))) S fun v3 F3 H3 l3 S3 h3 => ?_)
  have hsl : (sharesL G).length ≤ 30 := by unfold sharesL; rw [List.length_map, (srtK_perm _).length_eq]; exact hAl
  have hmo : (sharesL G).map (fun x => (x.1, upB x.2)) = mostM G := by
    unfold sharesL mostM
    rw [List.map_map]; rfl
  refine wss_cons (ws_set (r := fz (rD rI)) (x := mostM G) (n := 3) scDeals.nd rfl (.inr rfl) (ge_dictP rfl rfl T.dict (ge_is hmo (ge_lc0 (r := rT3 rI rI rI) (t := rT2 rI rI) (own := [("person", 5), ("top", 8), ("bottom", 9)]) (fun x => (x.1, upB x.2)) rfl scDeals.nd (blkOk_by (by kernel_rfl))
    (gi_list (ge_v (n := 2) rfl rfl h3)) (Sub.nil _) (fun _ _ _ _ _ => gb_t3 rfl (gb_i scDeals.nd (i := 5) rfl (.inl rfl)) (gb_i scDeals.nd (i := 8) rfl (.inl rfl)) (gb_i scDeals.nd (i := 9) rfl (.inl rfl))) (by decide) ?_ (line60 (by omega)))) (most_nd hg.ok)) S3 fun v4 F4 H4 l4 S4 h4 => ?_)
  · rintro F7 v7 ⟨p, t, b⟩ σ7 l7 hx ⟨u1, u2, u3, σ2, σ3, rfl, rfl, rfl⟩ s0 H0 C cl fp
    obtain ⟨e, he, ee⟩ := List.mem_map.mp hx
    cases ee
    have hs := share_of hg.ok ((srtK_perm _).mem_iff.mp he)
    exact ge_tup2 (r := rI) (t := rI) (ge_vi (n := 5) rfl rfl) (ge_call2 cU hr rfl (ge_vi (n := 8) rfl rfl) (ge_vi (n := 9) rfl rfl) ⟨hs.pos, hs.le⟩ fun _ h => h)
  have hMl := most_len hg.ok
  refine wss_cons (ws_setW scDeals.nd (n := 4) rfl (.inl rfl) (we_call1 cF hr rfl (ge_v (n := 0) rfl rfl hv) S4 hg fun ft v5 F5 H5 l5 S5 h5 hft => ?_))
  have h5' : Is (fz (rL rI)) F5 cs v5 ft := ⟨h5.h⟩
  refine wss_cons (ws_ifF (GW.to (gw_or (p := false) (q := false) (gt_not (p := true) (gt_of (ge_call2u cI hr rfl (ge_v (n := 0) rfl rfl hv) (ge_v (n := 4) rfl rfl h5') ⟨hg, hft.tak⟩ fun y hy => hy.mpr hft.two))) fun _ =>
    gw_or1 (gt_is (by rw [hft.tak.1]; simp) (gt_c (gc_ne (ge_lenL rfl T.len (GE.un (ge_v (n := 4) rfl rfl h5'))) (ge_lenL rfl T.len (GE.un (ge_v (n := 0) rfl rfl hv)))))))) S5 fun H6 S6 => wss_nil ?_)
  refine wss_cons (ws_for (own := []) (R := cs) (fun pre F' own' σ' => own' = [] ∧ ∃ a, σ' = [some v, some (.bl by_), some v3, some v4, some v5, a, none, none, none, none, none, none]) PassesOwn.never rfl
    (gi_keys (GE.z (ge_v (n := 3) rfl rfl h4))) S6 (gb_i scDeals.nd (i := 5) rfl (.inl rfl)) rfl (fun pre F' own' σ' R' _ hR => Sub.nil _)
    (fun F7 l7 => ⟨rfl, _, rfl⟩) ?_ ?_)
  · rintro pre p post F7 F8 own' σ' H9 v9 σ1 R' eG l7 l8 hsR hR S9 ⟨rfl, a, rfl⟩ rfl
    have hpk : p ∈ keys (mostM G) := by
      show p ∈ (mostM G).map (·.1)
      rw [eG]; exact List.mem_append_right _ List.mem_cons_self
    obtain ⟨hlk, hS⟩ := most_at hg.ok hpk
    have hle := hft.le p
    have hcn : ((ft.count p : Nat) : Int) ≤ bv (mostM G) p := by
      show cn ft p ≤ _
      omega
    refine wss_one (ws_ifF (gt_is (decide_eq_false (by omega)) (gt_c (gc_gt (ge_count (GE.un (ge_v (n := 4) rfl rfl h5')) (ge_vi (n := 5) rfl rfl)) (ge_dget (r := rI) (hu1 hr) (GE.un (ge_v (n := 3) rfl rfl h4)) (ge_vi (n := 5) rfl rfl) hlk)))) S9 fun H10 S10 => wss_nil ⟨F8, [], Le.refl _, S10, rfl, _, rfl⟩)
  · rintro F7 own' σ' H9 R' l7 hsR hR S9 ⟨rfl, a, rfl⟩
    have S9 : Sta F7 cs H9 := S9.sub hR
    refine wss_cons (ws_if (gt_c (gc_neD (r := rL rI) (x := ((mostM G).map (·.1)).filter (fun p => decide (2 < bv (mostM G) p)) |>.map fun p => p) (y := []) (hu64 hr) (by decide) (GE.un (ge_lc (r := rI) (t := rI) (own := [("person", 5)]) (fun p => decide (2 < bv (mostM G) p)) (fun p => p) rfl scDeals.nd (blkOk_by (by kernel_rfl))
      (gi_keys (GE.z (ge_v (n := 3) rfl rfl h4))) (Sub.nil _) (fun _ _ _ _ _ => gb_i scDeals.nd (i := 5) rfl (.inl rfl)) (by decide) ?_ ?_ (line60 (by rw [List.length_map]; omega)))) (GE.un ge_nil))) S9 (fun ho H10 S10 => ?_) (fun ho H10 S10 => wss_nil ?_))
    · rintro F8 v8 p σ8 l8 hx rfl s0 H0 C cl fp
      exact gts_one (gt_c (gc_gt (ge_dget (r := rI) (hu1 hr) (GE.un (ge_v (n := 3) rfl rfl h4)) (ge_vi (n := 5) rfl rfl) (most_at hg.ok hx).1) ge_int))
    · rintro F8 v8 p σ8 l8 hx rfl _ s0 H0 C cl fp
      exact ge_vi (n := 5) rfl rfl
    · exact wss_one (ws_retB ge_bl S10 fun H11 S11 => k true _ F7 H11 (l3.tr (l4.tr (l5.tr l7))) S11 ⟨rfl⟩ rfl)
    · have hno : ∀ p ∈ keys (mostM G), bv (mostM G) p ≤ 2 := fun p hp => by
        have h1 : ((mostM G).map (·.1)).filter (fun p => decide (2 < bv (mostM G) p)) = [] := by simpa using ho
        have := List.filter_eq_nil_iff.mp h1 p hp
        rw [decide_eq_true_eq] at this
        omega
      have hAb := able_ok hg
      have hal : (ableM G).length = G.length := by unfold ableM; rw [List.length_map]
      refine wss_cons (ws_setLc (r := rL rI) (t := rL rI) (own := [("group", 10)]) (fun _ => true) (rowM G) rfl scDeals.nd (i := 6) rfl rfl (blkOk_by (by kernel_rfl)) (gi_list (ge_v (n := 0) rfl rfl hv)) (Sub.nil _) (fun _ _ _ _ _ => gb_n (rL rI) scDeals.nd (i := 10) rfl (.inl rfl)) (by decide) (fun F1 v x σ1 l hx hb s H0 C cl fp => gts_nil) ?_ (line60 (by omega)) S10 fun v11 F11 H11 l11 S11 h11 => ?_)
      · rintro F8 v8 g σ8 l8 hx ⟨h8, rfl⟩ _ s0 H0 C cl fp
        have hgg := hg.ok g hx
        have hgl := hgg.le
        have h8' : Is (fz (rL rI)) F8 [] v8 g := ⟨h8.h⟩
        refine ge_sorted rfl T.sorted (GE.un (ge_cat (GE.un (ge_v (n := 10) rfl rfl h8')) (GE.un (ge_lc (r := rI) (t := rI) (own := [("person", 5)]) (fun p => decide (1 < bv (mostM G) p)) (fun p => p + 30) rfl scDeals.nd (blkOk_by (by kernel_rfl))
          (gi_list (ge_v (n := 10) rfl rfl h8')) (Sub.nil _) (fun _ _ _ _ _ => gb_i scDeals.nd (i := 5) rfl (.inl rfl)) (by decide) ?_ ?_ (line60 (by omega)))) ?_))
        · rintro F9 v9 p σ9 l9 hp rfl s1 H1 C1 cl1 fp1
          exact gts_one (gt_c (gc_gt (ge_dget (r := rI) (hu1 hr) (GE.un (ge_v (n := 3) rfl rfl h4)) (ge_vi (n := 5) rfl rfl) (most_at hg.ok (most_has hx hp)).1) ge_int))
        · rintro F9 v9 p σ9 l9 hp rfl _ s1 H1 C1 cl1 fp1
          exact ge_add (ge_vi (n := 5) rfl rfl) ge_int
        · rw [List.length_map]
          have : (g.filter fun p => decide (1 < bv (mostM G) p)).length ≤ g.length := List.length_filter_le _ _
          omega
      rw [List.filter_eq_self.mpr fun _ _ => rfl] at h11
      have h11 : Is (fz (rL (rL rI))) F11 cs v11 (ableM G) := h11
      refine wss_cons (ws_setW scDeals.nd (n := 7) rfl (.inl rfl) (we_call1 cM hr rfl (ge_v (n := 6) rfl rfl h11) S11 hAb fun y v12 F12 H12 l12 S12 h12 ⟨D, TT, hI, ey⟩ => ?_))
      subst ey
      have h12' : Is (fz (rL (rO rI))) F12 cs v12 (doneM (ableM G).length D) := ⟨h12.h⟩
      have hyl : (doneM (ableM G).length D).length = (ableM G).length := by unfold doneM; rw [doneF_len, List.length_replicate]
      have hall : ∀ o ∈ doneM (ableM G).length D, o.isNone = false := fun o ho => by
        obtain ⟨k0, hk0⟩ := List.mem_iff_getElem?.mp ho
        have hlt := (List.getElem?_eq_some_iff.mp hk0).1
        obtain ⟨e, he, ee⟩ := all_done hI (R := sdrM ft) (by unfold sdrM; rw [List.length_map, List.length_range, hft.tak.1, hal]) (fun k d h => sdr_in hg hft hno h) (sdr_nd fun p hp => by
          obtain ⟨k1, hk1⟩ := List.mem_iff_getElem?.mp hp
          have hlt1 : k1 < G.length := by rw [← hft.tak.1]; exact (List.getElem?_eq_some_iff.mp hk1).1
          exact (hg.ok _ (List.getElem_mem hlt1)).bd p (hft.tak.2 k1 p _ hk1 (List.getElem?_eq_getElem hlt1))) (k0 : Int) (by omega) (by omega)
        have := done_of hI.deal he
        rw [ee, Int.toNat_natCast, hk0] at this
        rw [Option.some.inj this]; rfl
      refine wss_one (ws_retB (p := true && true) (ge_and (p := true) (q := true) (ge_call2u cD hr rfl (ge_v (n := 6) rfl rfl h11) (ge_v (n := 7) rfl rfl h12') ⟨hAb, hyl, fun k d h => (hI.deal.ok _ (done_at hI.deal h)).2, done_nd hI.deal⟩ fun _ h => h) fun _ => ge_and1 (ge_is (decide_eq_true rfl) (ge_c (gc_eqD (r := rL rI) (x := []) (y := []) (hu64 hr) (by decide) (GE.un (ge_is ?_ (ge_lc (r := rO rI) (t := rI) (own := [("duty", 11)]) (fun o => o.isNone) (fun o => (0 : Int)) rfl scDeals.nd (blkOk_by (by kernel_rfl))
        (gi_list (ge_v (n := 7) rfl rfl h12')) (Sub.nil _) (fun _ _ _ _ _ => gb_n (rO rI) scDeals.nd (i := 11) rfl (.inl rfl)) (by decide) ?_ ?_ (line60 (by omega))))) (GE.un ge_nil))))) S12 fun H13 S13 => k true _ F12 H13 (l3.tr (l4.tr (l5.tr (l7.tr (l11.tr l12))))) S13 ⟨rfl⟩ rfl)
      · rw [List.map_eq_nil_iff]
        exact List.filter_eq_nil_iff.mpr fun o ho => by rw [hall o ho]; exact Bool.false_ne_true
      · rintro F8 v8 o σ8 l8 hx ⟨h8, rfl⟩ s0 H0 C cl fp
        exact gts_one (gt_c (gc_isN (ge_v (n := 11) rfl rfl h8)))
      · rintro F8 v8 o σ8 l8 hx ⟨h8, rfl⟩ hnn s0 H0 C cl fp
        rw [hall o hx] at hnn
        cases hnn
end
end K97

-- part K98j
namespace K97
open PySem PySem.Spec PyProof.Rows L2 DL
abbrev sSingle : Stmt := topS 50
theorem scSingle : FnScope ["groups", "by_name", "person", "top", "bottom", "fair", "holds", "k", "row", "duty"] ["groups", "by_name"] (defScope sSingle) := ⟨rfl, rfl, rfl, by decide +kernel, rfl, by decide +kernel, by decide +kernel⟩
/-- who is in which groups -/
def hrow (G : List (List Int)) (p : Int) : List Int := (rng 0 G.length).filter fun k => decide (p ∈ rowAt G k)
def holdsM (G : List (List Int)) : List (List Int) := (rng 0 30).map (hrow G)
theorem hrow_mem {G : List (List Int)} {p k : Int} : k ∈ hrow G p ↔ (0 ≤ k ∧ k < G.length) ∧ p ∈ rowAt G k := by
  unfold hrow
  rw [List.mem_filter, mem_rng, decide_eq_true_eq]
  exact ⟨fun ⟨a, b⟩ => ⟨by omega, b⟩, fun ⟨a, b⟩ => ⟨by omega, b⟩⟩
theorem rng_lt (lo : Int) (n : Nat) : (rng lo n).Pairwise (· < ·) := by
  unfold rng
  refine List.pairwise_map.mpr (List.pairwise_lt_range.imp fun h => by omega)
theorem holds_row {G : List (List Int)} {p : Int} (hp : 0 ≤ p ∧ p < 30) : rowAt (holdsM G) p = hrow G p := by
  obtain ⟨n, rfl⟩ : ∃ n : Nat, p = (n : Int) := ⟨p.toNat, by omega⟩
  refine rowAt_nat ?_
  unfold holdsM rng
  rw [List.getElem?_map, List.getElem?_map, List.getElem?_range (by omega)]
  simp
theorem holds_len (G : List (List Int)) : (holdsM G).length = 30 := by unfold holdsM; rw [List.length_map, rng_length]
theorem holds_able {G : List (List Int)} (hG : G.length ≤ 60) : Able (holdsM G) := ⟨by rw [holds_len]; decide, fun r hr => by
  obtain ⟨p, hp, rfl⟩ := List.mem_map.mp hr
  exact ⟨(rng_lt 0 _).sublist List.filter_sublist, fun x hx => by have := (hrow_mem.mp hx).1; omega⟩⟩
theorem grps_able {G : List (List Int)} (h : Grps G) : Able G := ⟨h.le, fun r hr => ⟨(h.ok r hr).ri, fun x hx => by have := (h.ok r hr).bd x hx; omega⟩⟩
theorem holds_in {G : List (List Int)} {p d : Int} (h : d ∈ rowAt (holdsM G) p) : 0 ≤ d ∧ d < G.length := by
  unfold rowAt at h
  cases hx : (holdsM G)[p.toNat]? with
  | none => rw [hx] at h; cases h
  | some r =>
    rw [hx] at h
    obtain ⟨q, hq, rfl⟩ := List.mem_map.mp (List.mem_of_getElem? hx)
    exact (hrow_mem.mp h).1
theorem one_nd {G : List (List Int)} {T : List Int} (hF : FairT G T) (h60 : ∀ p, Sv G p ≤ 60) : T.Nodup := by
  refine List.nodup_iff_count.mpr fun p => ?_
  have h1 := hF.le p
  have h2 := h60 p
  have : cn T p < 2 := by omega
  unfold cn at this
  omega
theorem fair_in {G : List (List Int)} {T : List Int} (hG : Grps G) (hF : FairT G T) {k : Nat} {p : Int} (h : T[k]? = some p) : k < G.length ∧ p ∈ rowAt G k ∧ 0 ≤ p ∧ p < 30 := by
  have hlt : k < G.length := by rw [← hF.tak.1]; exact (List.getElem?_eq_some_iff.mp h).1
  have hg : G[k]? = some G[k] := List.getElem?_eq_getElem hlt
  have hp := hF.tak.2 k p _ h hg
  have := (hG.ok _ (List.getElem_mem hlt)).bd p hp
  exact ⟨hlt, by rw [rowAt_nat hg]; exact hp, by omega, by omega⟩
theorem lack_ok {G : List (List Int)} {T : List Int} (hG : Grps G) (hF : FairT G T) (h60 : ∀ p, Sv G p ≤ 60) : Lack (holdsM G) (rng 0 G.length) := by
  have hl := hG.le
  refine ⟨holds_able hl, ⟨rng_lt 0 _, fun x hx => by have := mem_rng.mp hx; omega⟩, G.length, rfl, fun p d => holds_in, T, hF.tak.1, fun k p h => ?_, one_nd hF h60⟩
  obtain ⟨h1, h2, h3, h4⟩ := fair_in hG hF h
  refine ⟨⟨h3, by rw [holds_len]; omega⟩, ?_⟩
  rw [holds_row ⟨h3, h4⟩, hrow_mem]
  exact ⟨by omega, h2⟩
theorem count_all {G : List (List Int)} {T : List Int} {D : Ds} {TT : Int → Prop} (hG : Grps G) (hF : FairT G T) (h60 : ∀ p, Sv G p ≤ 60) (hI : DI (holdsM G) D (holdsM G).length TT) : (somes (doneM (holdsM G).length D)).length = G.length := by
  obtain ⟨_, _, m, _, _, _⟩ := lack_ok hG hF h60
  rw [done_count hI.deal, ← keys_length]
  refine Nat.le_antisymm (nodup_rng hI.deal.nd fun x hx => ?_) ?_
  · obtain ⟨e, he, rfl⟩ := List.mem_map.mp hx
    exact holds_in (hI.deal.ok e he).2
  · have : (rng 0 G.length).length ≤ (keys D).length := nodup_len (rng_nodup 0 _) fun d hd => by
      have := mem_rng.mp hd
      exact all_given hI (fun p d => holds_in) hF.tak.1 (fun k p h => by
        obtain ⟨h1, h2, h3, h4⟩ := fair_in hG hF h
        refine ⟨⟨h3, by rw [holds_len]; omega⟩, ?_⟩
        rw [holds_row ⟨h3, h4⟩, hrow_mem]
        exact ⟨by omega, h2⟩) (one_nd hF h60) d (by omega) (by omega)
    rwa [rng_length] at this
theorem somes_some (T : List Int) : somes (T.map some) = T := by
  unfold somes
  rw [List.filter_eq_self.mpr fun o ho => by obtain ⟨x, _, rfl⟩ := List.mem_map.mp ho; rfl, List.map_map]
  exact List.map_id T
theorem els_some {F : Hp} : ∀ {vs : List V} {T : List Int}, Els rI F vs T → Els (rO rI) F vs (T.map some)
  | _, _, .nil => .nil
  | _, _, .cons h t => .cons ⟨by rw [show _ = _ from h]; exact (fun z => by cases z), h⟩ (els_some t)
theorem is_some {F : Hp} {cs : Cs} {v : V} {T : List Int} (h : Is (fz (rL rI)) F cs v T) : Is (fz (rL (rO rI))) F cs v (T.map some) := by
  obtain ⟨a, vs, e, hd, hp⟩ := h.h
  exact ⟨⟨a, vs, e, hd, els_some hp⟩⟩
section
variable {P : Program} {w : World} {K : PySem.W.Frag} {mg : Str → Option Value} {base : Heap}
abbrev FSingle (P : Program) (w : World) (K : PySem.W.Frag) (mg : Str → Option Value) (base : Heap) : Prop := Fn P w K mg base 7 "_law_single_right" sSingle ["groups", "by_name"] (sp2 (fz (rL (rL rI))) rB rB (fun G _ => Grps G ∧ ∀ p, Sv G p ≤ 60) (fun _ _ b => b = true))
theorem fn_single {f : Addr} {fd : FuncData} (T : Txt4 mg) (cS : FShares P w K mg base) (cF : FFairTurns P w K mg base) (cM : FMostDone P w K mg base) (cD : FIsDone P w K mg base) (cL : FLacking P w K mg base) (hF : Fun K "_law_single_right" "_law_single_right" sSingle f fd) (hm : mg "_law_single_right" = some (.ref f)) (hb : Binds K fd ["groups", "by_name"] []) : FSingle P w K mg base := by
  refine fn_mk hF hm hb scSingle sp2_len fun cdv A outer s H vs Q E hr ⟨F, cs, v, G, v2, by_, e, S, hv, ⟨hv2⟩, ⟨hg, h60⟩, k⟩ => ?_
  subst e
  obtain rfl : v2 = .bl by_ := hv2
  have hGl := hg.le
  refine wss_cons (ws_for (own := []) (R := cs) (fun pre F' own' σ' => own' = [] ∧ ∃ a b c, σ' = [some v, some (.bl by_), a, b, c, none, none, none, none, none]) PassesOwn.never rfl
    (gi_list (ge_call1 cS hr rfl (ge_v (n := 0) rfl rfl hv) hg fun _ h => h)) S (gb_t3 rfl (gb_i scSingle.nd (i := 2) rfl (.inl rfl)) (gb_i scSingle.nd (i := 3) rfl (.inl rfl)) (gb_i scSingle.nd (i := 4) rfl (.inl rfl))) rfl (fun pre F' own' σ' R' _ hR => Sub.nil _)
    (fun F7 l7 => ⟨rfl, _, _, _, rfl⟩) ?_ ?_)
  · rintro pre ⟨p, t, b⟩ post F7 F8 own' σ' H9 v9 σ1 R' eG l7 l8 hsR hR S9 ⟨rfl, a1, a2, a3, rfl⟩ ⟨u1, u2, u3, σ2, σ3, rfl, rfl, rfl⟩
    have hxm : (p, t, b) ∈ sharesL G := by rw [eG]; exact List.mem_append_right _ List.mem_cons_self
    obtain ⟨e, he, ee⟩ := List.mem_map.mp hxm
    cases ee
    have hs := share_of hg.ok ((srtK_perm _).mem_iff.mp he)
    have hle : e.2.1 ≤ e.2.2 := by
      have h1 := hs.val
      have h2 := Int.mul_le_mul_of_nonneg_right (h60 e.1) (Int.le_of_lt hs.pos)
      omega
    exact wss_one (ws_ifF (gt_is (decide_eq_false (by show ¬ (e.2.2 < e.2.1); omega)) (gt_c (gc_gt (ge_vi (n := 3) rfl rfl) (ge_vi (n := 4) rfl rfl)))) S9 fun H10 S10 => wss_nil ⟨F8, [], Le.refl _, S10, rfl, _, _, _, rfl⟩)
  · rintro F7 own' σ' H9 R' l7 hsR hR S9 ⟨rfl, a1, a2, a3, rfl⟩
    have S9 : Sta F7 cs H9 := S9.sub hR
    have main : ∀ ft v10 F10 H10, Le1 F7 F10 → Sta F10 cs H10 → Is (rL rI) F10 [] v10 ft → FairT G ft → WSs (cxOf CX0 P w K mg base ["groups", "by_name", "person", "top", "bottom", "fair", "holds", "k", "row", "duty"] "_law_single_right" (defScope sSingle) f cdv A outer s H E).nox ((defBody sSingle).drop 2) { nx := fun _ H' => Q .non H', rt := Q } [some v, some (.bl by_), a1, a2, a3, some v10, none, none, none, none] H10 := by
      intro ft v10 F10 H10 l10 S10 h10 hft
      have hnd := one_nd hft h60
      have htl : ft.length ≤ 60 := by rw [hft.tak.1]; exact hGl
      have h10' : Is (fz (rL rI)) F10 cs v10 ft := ⟨h10.h⟩
      refine wss_cons (ws_ifF (GW.to (gw_or (p := false) (q := false) (gt_is (by rw [hft.tak.1]; simp) (gt_c (gc_ne (ge_lenSet rfl T.len rfl T.set (GE.un (ge_v (n := 5) rfl rfl h10')) hnd (by omega)) (ge_lenL rfl T.len (GE.un (ge_v (n := 0) rfl rfl hv)))))) fun _ =>
        gw_or1 (gt_not (p := true) (gt_of (ge_call2u cD hr rfl (ge_v (n := 0) rfl rfl hv) (ge_v (n := 5) rfl rfl (is_some h10')) ⟨grps_able hg, by rw [List.length_map]; exact hft.tak.1, fun k0 d h => ?_, by rw [somes_some]; exact hnd⟩ fun _ h => h))))) S10 fun H11 S11 => wss_nil ?_)
      · rw [List.getElem?_map] at h
        cases hx : ft[k0]? with
        | none => rw [hx] at h; cases h
        | some y =>
          rw [hx] at h
          have : y = d := Option.some.inj (Option.some.inj h)
          rw [← this]
          exact (fair_in hg hft hx).2.1
      · refine wss_cons (ws_setLc (r := rI) (t := rL rI) (own := [("person", 2)]) (fun _ => true) (hrow G) rfl scSingle.nd (i := 6) rfl rfl (blkOk_by (by kernel_rfl)) (gi_rng1 rfl T.range ge_int (by decide) (by decide)) (Sub.nil _) (fun _ _ _ _ _ => gb_i scSingle.nd (i := 2) rfl (.inr rfl)) (by decide) (fun F1 v x σ1 l hx hb s H0 C cl fp => gts_nil) ?_ (line60 (by rw [rng_length]; decide)) S11 fun v12 F12 H12 l12 S12 h12 => ?_)
        · rintro F8 v8 p σ8 l8 hx rfl _ s0 H0 C cl fp
          rw [show hrow G p = (hrow G p).map fun k => k by rw [List.map_id']]
          refine ge_lc (r := rI) (t := rI) (own := [("k", 7)]) (fun k => decide (p ∈ rowAt G k)) (fun k => k) rfl scSingle.nd (blkOk_by (by kernel_rfl)) (gi_rng1 (j := G.length) rfl T.range (ge_lenL rfl T.len (GE.un (ge_v (n := 0) rfl rfl hv))) (by omega) (by omega)) (Sub.nil _) (fun _ _ _ _ _ => gb_i scSingle.nd (i := 7) rfl (.inl rfl)) (by decide) ?_ ?_ (line60 (by rw [rng_length]; omega))
          · rintro F9 v9 k9 σ9 l9 hk9 rfl s1 H1 C1 cl1 fp1
            have hkb := mem_rng.mp hk9
            have hat := (rowAt_of (A := G) (p := k9) ⟨by omega, by omega⟩).1
            exact gts_one (gt_c (gc_inL (ge_vi (n := 2) rfl rfl) (GE.asQ (GE.un (ge_ixL (r := rL rI) (GE.un (ge_v (n := 0) rfl rfl hv)) (ge_vi (n := 7) rfl rfl) (by rw [show k9 = ((k9.toNat : Nat) : Int) by omega]; exact atI_of hat))))))
          · rintro F9 v9 k9 σ9 l9 hk9 rfl _ s1 H1 C1 cl1 fp1
            exact ge_vi (n := 7) rfl rfl
        rw [List.filter_eq_self.mpr fun _ _ => rfl] at h12
        have h12 : Is (fz (rL (rL rI))) F12 cs v12 (holdsM G) := h12
        have hhl := holds_len G
        have hid : (holdsM G).map (fun r => r) = holdsM G := List.map_id' _
        refine wss_one (ws_retW (we_and (GE.runB (ge_is (x := true) rfl (ge_c (gc_isN (r := rI) (o := (none : Option Int)) (GE.un (ge_call2 cL hr rfl (ge_is hid (ge_lc0 (r := rL rI) (t := rL rI) (own := [("row", 8)]) (fun r => r) rfl scSingle.nd (blkOk_by (by kernel_rfl)) (gi_list (ge_v (n := 6) rfl rfl h12)) (Sub.nil _) (fun _ _ _ _ _ => gb_n (rL rI) scSingle.nd (i := 8) rfl (.inl rfl)) (by decide) ?_ (line60 (by omega))))
          (ge_listRg (i := G.length) rfl rfl T.list rfl T.range (ge_lenL rfl T.len (GE.un (ge_v (n := 0) rfl rfl hv))) (by omega) (by omega)) (lack_ok hg hft h60) fun _ h => h))))) S12 fun H13 S13 => ⟨true, rfl, ?_⟩)))
        · rintro F9 v9 r σ9 l9 hr9 ⟨h9, rfl⟩ s1 H1 C1 cl1 fp1
          exact ge_listL (r := rI) rfl T.list (ge_v (n := 8) rfl rfl h9)
        rw [if_pos rfl]
        refine we_and1 (we_eq (we_len (r := rI) rfl T.len (we_lcW (r := rO rI) (t := rI) (own := [("duty", 9)]) (E := fun y => ∃ D TT, DI (holdsM G) D (holdsM G).length TT ∧ y = doneM (holdsM G).length D) (fun o => o.isSome) (fun o => o.getD 0) rfl scSingle.nd (blkOk_by (by kernel_rfl))
          (giw_list (we_call1 cM hr rfl (ge_v (n := 6) rfl rfl h12) S13 (holds_able hGl) fun y v14 F14 H14 l14 S14 h14 hy => ⟨F14, y, l14.le, S14, h14.h, hy⟩)) (fun _ _ _ _ _ => gb_n (rO rI) scSingle.nd (i := 9) rfl (.inl rfl)) (by decide) ?_ ?_ (fun y ⟨D, TT, hI, ey⟩ => by rw [ey]; unfold doneM; rw [doneF_len, List.length_replicate, hhl]; decide) fun y v15 F15 H15 ⟨D, TT, hI, ey⟩ l15 S15 h15 => ?_)))
        · rintro F9 v9 o σ9 l9 ⟨h9, rfl⟩ s1 H1 C1 cl1 fp1
          exact gts_one (gt_c (gc_notN (ge_v (n := 9) rfl rfl h9)))
        · rintro F9 v9 o σ9 l9 ⟨h9, rfl⟩ hs s1 H1 C1 cl1 fp1
          obtain ⟨w9, rfl⟩ := Option.isSome_iff_exists.mp hs
          exact ge_v (n := 9) rfl rfl (show Is (fz rI) F9 [] v9 w9 from ⟨h9.h.2⟩)
        · subst ey
          refine ⟨F15, cs, _, S15, h15.un.h, _, rfl, GE.runI (ge_lenL rfl T.len (GE.un (ge_v (n := 0) rfl rfl hv))) S15 fun H16 S16 => ⟨_, rfl, k _ _ F15 H16 (l7.tr (l10.tr (l12.tr l15))) S16 ⟨rfl⟩ ?_⟩⟩
          have := count_all hg hft h60 hI
          unfold somes at this
          exact decide_eq_true (by rw [this])
    refine wss_cons (ws_setW scSingle.nd (n := 5) rfl (.inl rfl) (we_if ((gt_of (ge_vb (n := 1) rfl rfl)).run S9 fun H10 S10 => ite2 (fun _ => ?_) (fun _ => ?_))))
    · exact we_callK1 cF hr rfl (ge_v (n := 0) rfl rfl hv) S10 hg (fun ft v11 F11 H11 l11 S11 h11 hft => main ft v11 F11 H11 l11 S11 h11 hft) (fun _ _ _ _ _ _ ws hl => match ws, hl with | [_], _ => rfl)
    · exact we_call1 cF hr rfl (ge_v (n := 0) rfl rfl hv) S10 hg (fun ft v11 F11 H11 l11 S11 h11 hft => main ft v11 F11 H11 l11 S11 h11 hft)
end
end K97

-- part K98k
namespace K97
open DL
abbrev Z3 := (Int × Int × Int) × (Int × Int × Int)
def wholeM : Int := 27720 ^ (2 : Int).toNat
theorem whole_eq : wholeM = 768398400 := by decide +kernel
def nb (z : Z3) : Bool := decide ((if z.1.2.1 < 0 then -z.1.2.1 else z.1.2.1) < z.1.2.2)
def tot (zs : List Z3) : Int := (zs.map fun z => z.1.2.1 * (wholeM / z.1.2.2)).sum
theorem tot_snoc (zs : List Z3) (z : Z3) : tot (zs ++ [z]) = tot zs + z.1.2.1 * (wholeM / z.1.2.2) := by
  unfold tot
  rw [List.map_append, List.sum_append]
  simp
theorem srt_keys {α : Type} (d : List (Int × α)) : srt (keys d) = keys (srtK d) := by
  refine (srt_eq ((srtK_perm d).map _) ?_).symm
  exact List.pairwise_map.mpr (srtK_sorted d)
structure Dbt (G : List (List Int)) (T : List Int) (tk : Ds) : Prop where
  grp : ∀ g ∈ G, Grp g
  tak : Tak G T
  cnt : ∀ p, (look tk p).getD 0 = cn T p
variable {G : List (List Int)} {T : List Int} {tk : Ds}
theorem debts_eq (h : Dbt G T tk) : debtsM (sharesM G, tk) = (srtK (sharesM G)).map fun e => (e.1, e.2.1 - cn T e.1 * e.2.2, e.2.2) := by
  unfold debtsM
  rw [srt_keys]
  unfold keys
  rw [List.map_map]
  refine List.map_congr_left fun e he => ?_
  have hm := (srtK_perm _).mem_iff.mp he
  have hg : gsh (sharesM G) e.1 = e.2 := by
    unfold gsh
    rw [look_of_mem (allShr G h.grp).2.1 (show (e.1, e.2) ∈ sharesM G from hm)]; rfl
  show (e.1, (gsh (sharesM G) e.1).1 - ((look tk e.1).getD 0) * (gsh (sharesM G) e.1).2, (gsh (sharesM G) e.1).2) = _
  rw [hg, h.cnt]
def zipE (T : List Int) (e : Int × Int × Int) : Z3 := ((e.1, e.2.1 - cn T e.1 * e.2.2, e.2.2), (e.1, e.2.1, e.2.2))
theorem zip_map2 {α β γ : Type} (f : α → β) (g : α → γ) : ∀ xs : List α, (xs.map f).zip (xs.map g) = xs.map fun x => (f x, g x)
  | [] => rfl
  | x :: xs => by rw [List.map_cons, List.map_cons, List.zip_cons_cons, zip_map2 f g xs]; rfl
theorem zip_eq (h : Dbt G T tk) : (debtsM (sharesM G, tk)).zip (sharesL G) = (srtK (sharesM G)).map (zipE T) := by
  rw [debts_eq h]
  unfold sharesL
  exact zip_map2 _ _ _
theorem tot_zero (h : Dbt G T tk) : tot ((srtK (sharesM G)).map (zipE T)) = 0 := by
  have nd : (keys (srtK (sharesM G))).Nodup := (((srtK_perm (sharesM G)).map _).nodup_iff).mpr (allShr G h.grp).2.1
  have hk : ∀ p, p ∈ keys (srtK (sharesM G)) ↔ ∃ g ∈ G, p ∈ g := fun p => by
    rw [← shares_keys G p]
    exact ((srtK_perm (sharesM G)).map _).mem_iff
  have h1 := closed_le nd h.tak.1 h.grp fun k p g _ hg _ o ho => (hk o).mpr ⟨g, List.mem_of_getElem? hg, ho⟩
  have h2 := apart_ge nd h.tak.1 h.grp fun k p g hp hg hn => absurd ((hk p).mpr ⟨g, List.mem_of_getElem? hg, h.tak.2 k p g hp hg⟩) hn
  have h3 : 60 * tot ((srtK (sharesM G)).map (zipE T)) = wholeM * (((keys (srtK (sharesM G))).map (Sv G)).sum - 60 * ((keys (srtK (sharesM G))).map (cn T)).sum) := by
    have step : ∀ l : List (Int × Int × Int), (∀ e ∈ l, e ∈ sharesM G) → 60 * tot (l.map (zipE T)) = wholeM * (((keys l).map (Sv G)).sum - 60 * ((keys l).map (cn T)).sum) := by
      intro l
      induction l with
      | nil => intro _; rfl
      | cons e l ih =>
        intro hl
        have ih := ih fun x hx => hl x (List.mem_cons_of_mem _ hx)
        have hs := share_of h.grp (hl e List.mem_cons_self)
        have hd : e.2.2 ∣ wholeM := by
          rw [whole_eq]
          exact Int.dvd_trans hs.dvd ⟨12806640, by decide⟩
        have hq : e.2.2 * (wholeM / e.2.2) = wholeM := Int.mul_ediv_cancel' hd
        have e1 : tot ((e :: l).map (zipE T)) = (e.2.1 - cn T e.1 * e.2.2) * (wholeM / e.2.2) + tot (l.map (zipE T)) := by
          unfold tot
          rw [List.map_cons, List.map_cons, List.sum_cons]; rfl
        have e2 : keys (e :: l) = e.1 :: keys l := rfl
        rw [e1, e2, List.map_cons, List.map_cons, List.sum_cons, List.sum_cons]
        have hv := hs.val
        generalize wholeM / e.2.2 = q at *
        have e3 : 60 * ((e.2.1 - cn T e.1 * e.2.2) * q) = wholeM * (Sv G e.1 - 60 * cn T e.1) := by
          rw [Int.sub_mul, Int.mul_sub, Int.mul_sub, ← Int.mul_assoc 60 e.2.1 q, Int.mul_comm 60 e.2.1, hv, Int.mul_assoc (Sv G e.1), hq, Int.mul_assoc (cn T e.1), hq, Int.mul_comm (Sv G e.1), Int.mul_left_comm 60, Int.mul_comm (cn T e.1)]
          rw [← Int.mul_assoc, Int.mul_comm 60 wholeM, Int.mul_assoc]
        rw [Int.mul_add, e3, ih, ← Int.mul_add]
        congr 1
        omega
    exact step _ fun e he => (srtK_perm _).mem_iff.mp he
  have h4 : ((keys (srtK (sharesM G))).map (Sv G)).sum - 60 * ((keys (srtK (sharesM G))).map (cn T)).sum = 0 := by omega
  rw [h4, Int.mul_zero] at h3
  omega
theorem all_near (h : Dbt G T tk) : ((srtK (sharesM G)).map (zipE T)).all nb = true ↔ Fair2 G T := by
  rw [← near_all h.grp h.tak, List.all_eq_true]
  constructor
  · intro hx e he
    have := hx (zipE T e) (List.mem_map.mpr ⟨e, (srtK_perm _).mem_iff.mpr he, rfl⟩)
    unfold nb zipE at this
    have := of_decide_eq_true this
    dsimp only at this
    unfold near
    split at this <;> omega
  · rintro hx z hz
    obtain ⟨e, he, rfl⟩ := List.mem_map.mp hz
    have := hx e ((srtK_perm _).mem_iff.mp he)
    unfold near at this
    unfold nb zipE
    refine decide_eq_true ?_
    dsimp only
    split <;> omega
theorem tak_snoc {pre : List (List Int)} {g : List Int} {p : Int} (h : Tak pre T) (hp : p ∈ g) : Tak (pre ++ [g]) (T ++ [p]) := by
  refine ⟨by rw [List.length_append, List.length_append, h.1]; rfl, fun k q g' hq hg' => ?_⟩
  by_cases hlt : k < T.length
  · rw [List.getElem?_append_left hlt] at hq
    rw [List.getElem?_append_left (by rw [← h.1]; exact hlt)] at hg'
    exact h.2 k q g' hq hg'
  · rw [List.getElem?_append_right (by omega)] at hq
    rw [List.getElem?_append_right (by rw [← h.1]; omega), ← h.1] at hg'
    cases hk : k - T.length with
    | zero =>
      rw [hk] at hq hg'
      cases hq; cases hg'; exact hp
    | succ n => rw [hk] at hq; simp at hq
theorem cn_snoc (T : List Int) (p q : Int) : cn (T ++ [p]) q = cn T q + if q = p then 1 else 0 := by
  unfold cn
  rw [List.count_append]
  by_cases h : q = p
  · subst h; simp
  · rw [if_neg h]; simp [Ne.symm h]
end K97

-- part K98l
namespace K97
open PySem PySem.Spec PyProof.Rows L2 DL
abbrev sCameR : Stmt := topS 51
theorem scCameR : FnScope ["groups", "by_name", "turns", "chosen", "group", "debts", "close", "total", "whole", "person", "top", "bottom", "other", "most", "part"] ["groups", "by_name"] (defScope sCameR) := ⟨rfl, rfl, rfl, by decide +kernel, rfl, by decide +kernel, by decide +kernel⟩
section
variable {P : Program} {w : World} {K : PySem.W.Frag} {mg : Str → Option Value} {base : Heap} {C : Addr}
abbrev FCameR (P : Program) (w : World) (K : PySem.W.Frag) (mg : Str → Option Value) (base : Heap) : Prop := Fn P w K mg base 7 "_law_came_right" sCameR ["groups", "by_name"] (sp2 (fz (rL (rL rI))) rB rB (fun G _ => Grps G) (fun _ _ b => b = true))
theorem fn_camer {f fi : Addr} {fd fdi : FuncData} (T : Txt4 mg) (TT : TxtT K mg C) (M : Mk K C fi) (cI : FTInit P w K mg base C fi fdi) (bI : Binds K fdi ["self"] []) (cC : FCame P w K mg base C) (cB : FDebts P w K mg base C) (cS : FShares P w K mg base) (cF : FIsFair P w K mg base) (hF : Fun K "_law_came_right" "_law_came_right" sCameR f fd) (hm : mg "_law_came_right" = some (.ref f)) (hb : Binds K fd ["groups", "by_name"] []) : FCameR P w K mg base := by
  refine fn_mk hF hm hb scCameR sp2_len fun cdv A outer s H vs Q E hr ⟨F, cs, v, G, v2, by_, e, S, hv, ⟨hv2⟩, hg, k⟩ => ?_
  subst e
  obtain rfl : v2 = .bl by_ := hv2
  have hGl := hg.le
  refine wss_cons (ws_par rfl scCameR.nd (n := 2) (m := 3) rfl rfl (by decide) rfl rfl (we_make0 M cI bI (hr.mono (by decide)) rfl TT.mgC S fun x dx H1 S1 => ⟨F, cs, x, dx, rfl, S1, fun F2 d1 d2 H2 l2 hi S2 => ⟨rfl, we_nilC S2 fun d5 H5 S5 => ?_⟩⟩))
  refine wss_cons (ws_for (own := [(d5, .lst []), (d2, .dK []), (d1, .dK [])]) (R := cs) (fun pre F' own' σ' => ∃ ws kvs1 kvs2 tk ch a, own' = [(d5, .lst ws), (d2, .dK kvs2), (d1, .dK kvs1)] ∧ Els rI F' ws ch ∧ Ens (rT2 rI rI) F' kvs1 (sharesM pre) ∧ Ens rI F' kvs2 tk ∧ Tak pre ch ∧ (∀ p, (look tk p).getD 0 = cn ch p) ∧ tk.length ≤ pre.length ∧ Le F2 F' ∧
      σ' = [some v, some (.bl by_), some (.ref x), some (.ref d5), a, none, none, none, none, none, none, none, none, none, none]) PassesOwn.never rfl
    (gi_list (ge_v (n := 0) rfl rfl hv)) S5 (gb_n (rL rI) scCameR.nd (i := 4) rfl (.inl rfl)) rfl (fun pre F' own' σ' R' _ hR => Sub.nil _)
    (fun F6 l6 => ⟨[], [], [], [], [], _, rfl, .nil, .nil, .nil, ⟨rfl, fun k p g h => by simp at h⟩, fun p => rfl, Nat.le_refl _, l6.le, rfl⟩) ?_ ?_)
  · rintro pre g post F6 F7 own' σ' H7 v7 σ1 R' eG l6 l7 hsR hR S7 ⟨ws, kvs1, kvs2, tk, ch, a, rfl, hw, h1, h2, hT, hc, htk, l26, rfl⟩ ⟨hv7, rfl⟩
    have hgm : g ∈ G := by rw [eG]; exact List.mem_append_right _ List.mem_cons_self
    have hgg := hg.ok g hgm
    have hprel : pre.length ≤ 60 := by
      have := congrArg List.length eG
      rw [List.length_append] at this
      omega
    have hApre : AllShr (sharesM pre) := allShr pre fun q hq => hg.ok q (by rw [eG]; exact List.mem_append_left _ hq)
    have l26' := l26.one
    have hi7 : Ins C F7 x (tf d1 d2) := hi.up (l26.trans l7.le)
    obtain ⟨dx7, hix⟩ := hi7.h
    have h17 := Ens.up l7.le h1
    have h27 := Ens.up l7.le h2
    have hv7' : Is (fz (rL rI)) F7 ((d5, .lst ws) :: (d2, .dK kvs2) :: (d1, .dK kvs1) :: R') v7 g := ⟨hv7.h⟩
    have hnc : (tf d1 d2).lookup ("came" : Str) = none := tf_no d1 d2 (by decide +kernel) (by decide +kernel)
    have fin : ∀ (F8 : Hp) (H8 : Hp) (vg : V), Le1 F7 F8 → Sta F8 ((d5, .lst ws) :: (d2, .dK kvs2) :: (d1, .dK kvs1) :: R') H8 → Is (fz (rQ rI)) F8 [] vg g → spCame C [.ref x, vg] H8 (fun u H2 => ∃ vs, H2 d5 = some (.lst vs) ∧ vs.length < sizeLine ∧ ∃ F9 own2, Le F7 F9 ∧ Sta F9 (own2 ++ R') (upd H2 d5 (.lst (vs ++ [u]))) ∧ ∃ ws kvs1 kvs2 tk ch a, own2 = [(d5, .lst ws), (d2, .dK kvs2), (d1, .dK kvs1)] ∧ Els rI F9 ws ch ∧ Ens (rT2 rI rI) F9 kvs1 (sharesM (pre ++ [g])) ∧ Ens rI F9 kvs2 tk ∧ Tak (pre ++ [g]) ch ∧ (∀ p, (look tk p).getD 0 = cn ch p) ∧ tk.length ≤ (pre ++ [g]).length ∧ Le F2 F9 ∧
        [some v, some (.bl by_), some (.ref x), some (.ref d5), some v7, none, none, none, none, none, none, none, none, none, none] = [some v, some (.bl by_), some (.ref x), some (.ref d5), a, none, none, none, none, none, none, none, none, none, none]) E0 := by
      intro F8 H8 vg l8 S8 hvg
      refine ⟨F8, (d5, .lst ws) :: R', x, d1, d2, kvs1, kvs2, _, tk, vg, g, rfl, S8.perm ?_, hi7.up l8.le, Ens.up l8.le h17, Ens.up l8.le h27, ⟨hvg.h⟩, hApre, hgg, by omega, fun p F9 H9 kvs1' kvs2' l9 S9 h1' h2' hp => ?_⟩
      · exact ((List.Perm.swap _ _ _).trans ((List.Perm.swap _ _ _).cons _)).trans (List.Perm.swap _ _ _)
      · have S10 : Sta F9 ((d5, .lst ws) :: (d2, .dK kvs2') :: (d1, .dK kvs1') :: R') H9 := S9.perm ((List.Perm.swap _ _ _).trans (((List.Perm.swap _ _ _).cons _).trans (List.Perm.swap _ _ _)))
        have S11 := S10.set (i := 0) (o' := .lst (ws ++ [.int p])) rfl nfL
        have S11 : Sta F9 ([(d5, .lst (ws ++ [.int p])), (d2, .dK kvs2'), (d1, .dK kvs1')] ++ R') (upd H9 d5 (.lst (ws ++ [.int p]))) := S11
        have hcell : Els rI F9 (ws ++ [V.int p]) (ch ++ [p]) := Paired.app (Els.up (l7.le.trans (l8.le.trans l9.le)) hw) (.cons rfl .nil)
        refine ⟨ws, S10.has _ List.mem_cons_self, by rw [show ws.length = ch.length from Paired.length hw, hT.1, sizeLine_eq]; omega, F9, [(d5, .lst (ws ++ [.int p])), (d2, .dK kvs2'), (d1, .dK kvs1')], l8.le.trans l9.le, S11, ws ++ [V.int p], kvs1', kvs2', _, ch ++ [p], _, rfl, hcell, by rw [sharesM_snoc]; exact h1', h2', tak_snoc hT hp, fun q => ?_, ?_, l26.trans (l7.le.trans (l8.le.trans l9.le)), rfl⟩
        · rw [look_put, cn_snoc]
          by_cases e : q = p
          · rw [if_pos e, if_pos e, hc p, e]; rfl
          · rw [if_neg e, if_neg e, hc q, Int.add_zero]
        · rw [List.length_append, List.length_singleton]
          exact Nat.le_trans (put_length _ _ _) (by omega)
    have S7' : Sta F7 ((d5, .lst ws) :: (d2, .dK kvs2) :: (d1, .dK kvs1) :: R') H7 := S7
    refine wss_one (ws_expr (we_appendW (w := d5) (we_var (n := 3) rfl rfl ⟨rfl, ⟨ws, S7'.has _ List.mem_cons_self⟩, we_if ((gt_of (ge_vb (n := 1) rfl rfl)).run S7' fun H8 S8 => ite2 (fun _ => ?_) (fun _ => ?_))⟩)))
    · refine we_methW cC TT.cl hr (by decide) (we_var (n := 2) rfl rfl ?_)
      obtain ⟨dx8, hx8⟩ := hi7.at S8
      exact ⟨x, dx8, _, rfl, hx8, hnc, wa1 (GE.run (ge_v (n := 4) rfl rfl hv7') S8 fun v9 F9 H9 l9 S9 h9 => fin F9 H9 v9 l9 S9 ⟨.inl h9.h⟩)⟩
    · refine we_methK ["group"] (fun ws => ws) (fun zs => zs) cC TT.cl hr (by decide) (pk_cons peW pk_nil) (fun _ _ _ _ _ _ sv ws hl => match ws, hl with | [_], _ => rfl) (fun h => h) (we_var (n := 2) rfl rfl ?_)
      obtain ⟨dx8, hx8⟩ := hi7.at S8
      exact ⟨x, dx8, _, rfl, hx8, hnc, GE.run (ge_tupleL (r := rI) rfl T.tuple (GE.un (ge_v (n := 4) rfl rfl hv7'))) S8 fun v9 F9 H9 l9 S9 h9 => fin F9 H9 v9 l9 S9 ⟨.inr h9.h⟩⟩
  · rintro F6 own' σ' H7 R' l6 hsR hR S7 ⟨ws, kvs1, kvs2, tk, ch, a, rfl, hw, h1, h2, hT, hc, htk, l26, rfl⟩
    have S7 : Sta F6 ((d5, .lst ws) :: (d2, .dK kvs2) :: (d1, .dK kvs1) :: cs) H7 := S7.sub (List.Sublist.cons₂ _ (List.Sublist.cons₂ _ (List.Sublist.cons₂ _ hR)))
    obtain ⟨F8, l8, S8, h8⟩ := frzL S7 hw
    have hD : Dbt G ch tk := ⟨hg.ok, hT, hc⟩
    have hA := allShr G hg.ok
    have hAl := hA.len
    have h18 := Ens.up l8.le h1
    have h28 := Ens.up l8.le h2
    have hi8 : Ins C F8 x (tf d1 d2) := hi.up (l26.trans l8.le)
    have hself : ∀ (F9 : Hp) (cs9 : Cs), Le F8 F9 → Sub ((d2, .dK kvs2) :: (d1, .dK kvs1) :: cs) cs9 → rSelf C F9 cs9 (.ref x) (sharesM G, tk) := fun F9 cs9 l9 u9 =>
      ⟨x, d1, d2, rfl, hi8.up l9, ⟨d1, kvs1, rfl, .inr (.inl (u9.h _ (.tail _ List.mem_cons_self))), Ens.up l9 h18⟩, ⟨d2, kvs2, rfl, .inr (.inl (u9.h _ List.mem_cons_self)), Ens.up l9 h28⟩⟩
    refine wss_cons (ws_par3 rfl scCameR.nd (n := 5) (m := 6) (l := 7) rfl rfl rfl (by decide) (by decide) (by decide) rfl rfl rfl
      (we_meth0 (r := rSelf C) (x := (sharesM G, tk)) cB TT.cl hr (ge_va (n := 2) rfl rfl) hi8 (tf_no d1 d2 (by decide +kernel) (by decide +kernel)) S8 (fun F9 l9 => hself F9 _ l9 (Sub.refl _)) hA fun y v9 F9 H9 l9 S9 h9 ey => GE.runB ge_bl S9 fun H10 S10 => GE.runI ge_int S10 fun H11 S11 => ?_))
    subst ey
    have h9' : ∀ cs, Is (fz (rL (rT3 rI rI rI))) F9 cs v9 (debtsM (sharesM G, tk)) := fun cs => ⟨h9.h⟩
    have l8' := l8
    refine wss_cons (ws_setI (i := wholeM) scCameR.nd (n := 8) rfl (.inl rfl) (ge_pow ge_int ge_int ⟨by decide, by decide, by decide⟩) S11 fun H12 S12 => ?_)
    have hzl : ((debtsM (sharesM G, tk)).zip (sharesL G)).length ≤ 30 := by
      rw [zip_eq hD, List.length_map, (srtK_perm _).length_eq]; exact hAl
    refine wss_cons (ws_for (own := []) (R := (d2, .dK kvs2) :: (d1, .dK kvs1) :: cs) (fun pre F' own' σ' => own' = [] ∧ ∃ b1 b2 b3 b4 b5 b6, σ' = [some v, some (.bl by_), some (.ref x), some (.ref d5), a, some v9, some (.bl (pre.all nb)), some (.int (tot pre)), some (.int wholeM), b1, b2, b3, b4, b5, b6]) PassesOwn.never rfl
      (gi_zip (r := rT3 rI rI rI) (t := rT3 rI rI rI) rfl T.zip (ge_v (n := 5) rfl rfl (h9' ((d2, .dK kvs2) :: (d1, .dK kvs1) :: cs))) (ge_call1 cS hr rfl (ge_v (n := 0) rfl rfl hv) hg fun _ h => h)) S12
      (gb_t2 rfl (gb_t3 rfl (gb_i scCameR.nd (i := 9) rfl (.inl rfl)) (gb_i scCameR.nd (i := 10) rfl (.inl rfl)) (gb_i scCameR.nd (i := 11) rfl (.inl rfl))) (gb_t3 rfl (gb_i scCameR.nd (i := 12) rfl (.inl rfl)) (gb_i scCameR.nd (i := 13) rfl (.inl rfl)) (gb_i scCameR.nd (i := 14) rfl (.inl rfl)))) rfl (fun pre F' own' σ' R' _ hR => Sub.nil _)
      (fun F13 l13 => ⟨rfl, _, _, _, _, _, _, rfl⟩) ?_ ?_)
    · rintro pre z post F13 F14 own' σ' H15 v15 σ1 R5 eG l13 l14 hsR5 hR5 S15 ⟨rfl, b1, b2, b3, b4, b5, b6, rfl⟩ ⟨u1, u2, σ2, ⟨u3, u4, u5, σ3, σ4, rfl, rfl, rfl⟩, ⟨u6, u7, u8, σ5, σ6, rfl, rfl, rfl⟩⟩
      have hzm : z ∈ (srtK (sharesM G)).map (zipE ch) := by rw [← zip_eq hD, eG]; exact List.mem_append_right _ List.mem_cons_self
      obtain ⟨e, he, rfl⟩ := List.mem_map.mp hzm
      have hs := share_of hg.ok ((srtK_perm _).mem_iff.mp he)
      have hb0 := hs.pos
      have hb1 := hs.le
      have h60 : -(2 ^ 64) < e.2.2 ∧ e.2.2 < 2 ^ 64 := by constructor <;> omega
      have h8v : Is (fz (rL rI)) F8 ([] ++ R5) (.ref d5) ch := ⟨h8.h⟩
      have hq1 : 0 ≤ wholeM / e.2.2 := Int.ediv_nonneg (by rw [whole_eq]; decide) (by omega)
      have hq2 : wholeM / e.2.2 ≤ wholeM := Int.ediv_le_self _ (by rw [whole_eq]; decide)
      have hq : -(2 ^ 64) < wholeM / e.2.2 ∧ wholeM / e.2.2 < 2 ^ 64 := by rw [whole_eq] at hq2 hq1 ⊢; constructor <;> omega
      refine wss_cons (ws_ifF (GW.to (gw_or (p := false) (q := false) (gt_is (by show (!decide (e.1 = e.1)) = false; simp) (gt_c (gc_ne (ge_vi (n := 9) rfl rfl) (ge_vi (n := 12) rfl rfl)))) fun _ => gw_or1 (gt_is (p := !decide ((e.2.1 - cn ch e.1 * e.2.2) * e.2.2 = (e.2.1 - cn ch e.1 * e.2.2) * e.2.2)) (by simp)
        (gt_c (gc_ne (ge_mul (i := e.2.1 - cn ch e.1 * e.2.2) (j := e.2.2) (ge_vi (n := 10) rfl rfl) (ge_vi (n := 14) rfl rfl) (.inr h60)) (ge_mul (i := e.2.1 - cn ch e.1 * e.2.2) (j := e.2.2) (ge_sub (ge_vi (n := 13) rfl rfl) (ge_mul (ge_count (GE.un (ge_v (n := 3) rfl rfl h8v)) (ge_vi (n := 9) rfl rfl)) (ge_vi (n := 14) rfl rfl) (.inr h60))) (ge_vi (n := 11) rfl rfl) (.inr h60))))))) S15 fun H16 S16 => wss_nil ?_)
      refine wss_cons (ws_setB (p := pre.all nb && nb (zipE ch e)) scCameR.nd (n := 6) rfl (.inl rfl) (ge_and (ge_vb (n := 6) rfl rfl) fun _ => ge_and1 (ge_c (gc_lt (ge_abs rfl T.abs (ge_vi (n := 10) rfl rfl)) (ge_vi (n := 11) rfl rfl)))) S16 fun H17 S17 => ?_)
      refine wss_one (ws_setI (i := tot pre + (e.2.1 - cn ch e.1 * e.2.2) * (wholeM / e.2.2)) scCameR.nd (n := 7) rfl (.inl rfl) (ge_add (ge_vi (n := 7) rfl rfl) (ge_mul (ge_vi (n := 10) rfl rfl) (ge_fdiv (ge_vi (n := 8) rfl rfl) (ge_vi (n := 11) rfl rfl) ⟨hb0, by show e.2.2 < 1073741824; omega⟩) (.inr hq))) S17 fun H18 S18 => ⟨F14, [], Le.refl _, S18, rfl, some (.int (zipE ch e).1.1), some (.int (zipE ch e).1.2.1), some (.int (zipE ch e).1.2.2), some (.int (zipE ch e).2.1), some (.int (zipE ch e).2.2.1), some (.int (zipE ch e).2.2.2), ?_⟩)
      rw [tot_snoc, List.all_append]
      have : ([zipE ch e] : List Z3).all nb = nb (zipE ch e) := by simp
      rw [this]
      rfl
    · rintro F13 own' σ' H15 R5 l13 hsR5 hR5 S15 ⟨rfl, b1, b2, b3, b4, b5, b6, rfl⟩
      have hcs : DL.Sub cs R5 := ⟨fun p hp => hsR5.h p (.tail _ (.tail _ hp))⟩
      have h8v : Is (fz (rL rI)) F8 R5 (.ref d5) ch := ⟨h8.h⟩
      have S15 : Sta F13 R5 H15 := S15
      have hlen : (debtsM (sharesM G, tk)).length = (sharesL G).length := by
        rw [debts_eq hD, List.length_map]
        unfold sharesL
        rw [List.length_map]
      have ht0 : tot ((debtsM (sharesM G, tk)).zip (sharesL G)) = 0 := by rw [zip_eq hD]; exact tot_zero hD
      refine wss_cons (ws_ifF (GW.to (gw_or (p := false) (q := false) (gt_is (by rw [hlen]; simp) (gt_c (gc_ne (ge_lenL rfl T.len (GE.un (ge_v (n := 5) rfl rfl (h9' R5)))) (ge_lenL rfl T.len (GE.un (ge_call1 cS hr rfl (ge_v (n := 0) rfl rfl hv) hg fun _ h => h)))))) fun _ => gw_or1 (gt_is (by rw [ht0]; rfl) (gt_c (gc_ne (ge_vi (n := 7) rfl rfl) ge_int))))) S15 fun H16 S16 => wss_nil ?_)
      classical
      refine wss_one (ws_retB (p := (decide (Fair2 G ch)) == ((debtsM (sharesM G, tk)).zip (sharesL G)).all nb) (ge_c (gc_eqB (ge_call2u cF hr rfl (ge_v (n := 0) rfl rfl hv) (ge_v (n := 3) rfl rfl h8v) ⟨hg, hT⟩ fun y hy => ?_) (ge_vb (n := 6) rfl rfl))) S16 fun H17 S17 => k _ _ F13 H17 ?_ ((S17.sub hR5).drop.drop) ⟨rfl⟩ ?_)
      · cases y with
        | true => exact (decide_eq_true (hy.mp rfl)).symm
        | false => exact (decide_eq_false fun z => by have := hy.mpr z; cases this).symm
      · exact l2.tr (l6.tr (l8.tr (l9.tr l13)))
      · rw [zip_eq hD]
        have := all_near hD
        by_cases z : Fair2 G ch
        · rw [decide_eq_true z, this.mpr z]; rfl
        · rw [decide_eq_false z, Bool.eq_false_iff.mpr fun q => z (this.mp q)]; rfl
end
end K97

-- part DLp
/-! DL, sixteenth part: the script, wherever it lies; tests with effects. -/
namespace DL
open PySem PySem.Spec PyProof.Rows L2
/-- the script -/
def rSc (K : PySem.W.Frag) : Rep (List Int) := fun F _ v xs => ∃ a, v = .ref a ∧ (F a = some (.lst (xs.map V.int)) ∨ (∃ o, F a = some (.frz o (.lst (xs.map V.int)))) ∨
  ∃ (o : Obj) (its : Array Value) (n : Nat), K.lookup a = some o ∧ o.cls = .type "list" ∧ o.dict = none ∧ o.data = .seq its n ∧ its.size ≤ sizeLine ∧ Vals (xs.map V.int) its.toList)
instance (K : PySem.W.Frag) : Stable (rSc K) := ⟨fun l _ ⟨a, e, h⟩ => ⟨a, e, h.imp (l.h _ _) (Or.imp (fun ⟨o, z⟩ => ⟨o, l.h _ _ z⟩) id)⟩⟩
theorem rSc_of {K : PySem.W.Frag} {H : Hp} {a : Addr} {xs : List Int} (h : SqL K H a (xs.map V.int)) : rSc K H [] (.ref a) xs := ⟨a, rfl, by
  rcases h with (h | h) | h
  · exact .inl h
  · exact .inr (.inl h)
  · exact .inr (.inr h)⟩
section
variable {X : Cx} {σ : Sl} {F : Hp} {cs : Cs} {H : Hp} {e a b c : Expr} {pos : Pos} {i j : Int} {xs : List Int} {v : V}
theorem Sta.sqSc {K : PySem.W.Frag} (S : Sta F cs H) {cs' : Cs} (h : rSc K F cs' v xs) : ∃ a, v = .ref a ∧ SqL K H a (xs.map V.int) := by
  obtain ⟨a, e, h⟩ := h
  refine ⟨a, e, ?_⟩
  rcases h with h | ⟨o, h⟩ | h
  · exact S.sqL (.inl h)
  · exact S.sqK h
  · exact .inr h
theorem ge_lenS {pp : Pos} (hg : Gl X "len") (hm : X.mg "len" = none) (ha : GE X σ F cs a (rSc X.K) xs)
    (he : starEach [a] X.env = (false, eval a X.env) :: starEach [] X.env := by rfl) (hpl : (backTo pos (starEach [] X.env)).any (·.1) = false := by rfl) : GE X σ F cs (.Call (.Name "len" pp) [a] [] pos) rI (xs.length : Int) :=
  ge_b1 call_len_seq hg hm PySem.boot_len ha (fun F2 cs1 H2 v Q l u S h q => by
    obtain ⟨w, ev, hs⟩ := S.sqSc h
    exact ⟨w, _, by rw [ev], .inl hs, q _ F2 H2 (Le.refl _) S (by show V.int _ = _; rw [List.length_map])⟩) (he := he) (hpl := hpl)
theorem ge_ixS {x : Int} (ha : GE X σ F cs a (rSc X.K) xs) (hb : GE X σ F cs b rI i) (hx : atI xs i = some x) (hs : PlainIx b := by first | exact fun _ _ => rfl) : GE X σ F cs (.Subscript a b pos) rI x := fun F1 cs1 H Q l1 u1 S q =>
  weB (pe_ix ix_list peW peW hs) (ha F1 cs1 H _ l1 u1 S fun v F2 H2 l2 S2 h => hb F2 cs1 H2 _ (l1.trans l2) u1 S2 fun v2 F3 H3 l3 S3 e2 => by
    obtain ⟨w, ev, hsq⟩ := S3.sqSc (Stable.up (r := rSc X.K) l3 (Sub.refl _) h)
    obtain ⟨y, h1, h2⟩ := atI_rel (Els.ofInts (F := F3) xs) hx
    exact ⟨w, _, i, y, ev, e2, hsq, h1, q y F3 H3 (l2.trans l3) S3 h2⟩)
theorem ge_slHiS {p2 : Pos} (ha : GE X σ F cs a (rSc X.K) xs) (hb : GE X σ F cs b rI i) : GE X σ F cs (.Subscript a (.Slice none (some b) none p2) pos) (fz (rL rI)) (cut xs none (some i)) := fun F1 cs1 H Q l1 u1 S q =>
  weB (pe_slice sl_list peW po_none (po_some peW)) (ha F1 cs1 H _ l1 u1 S fun v F2 H2 l2 S2 h => hb F2 cs1 H2 _ (l1.trans l2) u1 S2 fun v2 F3 H3 l3 S3 e2 => by
    obtain ⟨w, ev, hsq⟩ := S3.sqSc (Stable.up (r := rSc X.K) l3 (Sub.refl _) h)
    exact ⟨i, e2, w, _, ev, hsq, fun d hd => q _ _ _ (l2.trans (l3.trans (S3.new hd _).1.le)) (S3.new hd _).2 ⟨d, _, rfl, .inl upd_same, cut_rel (Els.ofInts (F := upd F3 d _) xs) _ _⟩⟩)
theorem wt_of {R : Bool → Hp → Prop} (h : WE X e σ H fun v H1 => ∃ p : Bool, v = .bl p ∧ R p H1) (he : ∀ whole, isTrue e X.env whole = (do let v ← whole; standAt e.pos; holding [v] (truthy v)) := by intro _; rfl) : WT X e σ H R :=
  wtB (pt_val peW he) h
end
end DL

-- part K98m
namespace K97
open PySem PySem.Spec PyProof.Rows L2 DL
abbrev sLaw : Stmt := topS 52
theorem scLaw : FnScope ["script", "k", "box", "by_name", "turn", "groups"] ["script"] (defScope sLaw) := ⟨rfl, rfl, rfl, by decide +kernel, rfl, by decide +kernel, by decide +kernel⟩
section
variable {P : Program} {w : World} {K : PySem.W.Frag} {mg : Str → Option Value} {base : Heap} {C : Addr}
abbrev FCellS (P : Program) (w : World) (K : PySem.W.Frag) (mg : Str → Option Value) (base : Heap) : Prop := Fn P w K mg base 1 "_law_cell" sCell ["script", "k"] (sp2 (rSc K) rI rI (fun ns k => 0 ≤ k ∧ k ≤ 10) (fun _ _ _ => True))
theorem fn_cellS {f : Addr} {fd : FuncData} (T : Txt4 mg) (hF : Fun K "_law_cell" "_law_cell" sCell f fd) (hm : mg "_law_cell" = some (.ref f)) (hb : Binds K fd ["script", "k"] []) : FCellS P w K mg base := by
  refine fn_mk hF hm hb scCell sp2_len fun cdv A outer s H vs Q E hr ⟨F, cs, v, ns, v2, kk, e, S, hv, ⟨hv2⟩, ⟨h0, h10⟩, k⟩ => ?_
  subst e
  obtain rfl : v2 = .int kk := hv2
  refine wss_one (ws_ret (r := rI) (x := if decide (kk < ns.length) = true then ns.getD kk.toNat 0 else 6163 * kk + (cut ns none (some 1)).sum % 1000033) (ge_ite (gt_c (gc_lt (ge_vi (n := 1) rfl rfl) (ge_lenS rfl T.len (ge_v (n := 0) rfl rfl hv))))
    (fun hlt => ge_ixS (ge_v (n := 0) rfl rfl hv) (ge_vi (n := 1) rfl rfl) ?_)
    (fun _ => ge_add (ge_mul ge_int (ge_vi (n := 1) rfl rfl) (.inl ⟨by decide, by decide⟩)) (ge_mod (ge_intI rfl T.int (ge_sum rfl rfl T.sum (GE.un (ge_slHiS (ge_v (n := 0) rfl rfl hv) ge_int)))) ge_int (by decide)))) S fun v3 F3 H3 l3 S3 h3 => k _ v3 F3 H3 l3 S3 ⟨h3.h⟩ True.intro)
  have hlt := of_decide_eq_true hlt
  have hl : kk.toNat < ns.length := by omega
  rw [show kk = ((kk.toNat : Nat) : Int) by omega]
  refine atI_of ?_
  rw [Int.toNat_natCast, List.getD_eq_getElem?_getD, List.getElem?_eq_getElem hl]; rfl
/-- the law's promise -/
def spLaw (K : PySem.W.Frag) : Sp := fun vs H Q _ => ∃ (a : Addr) (ns : List Int), vs = [.ref a] ∧ SqL K H a (ns.map V.int) ∧ ns.length ≤ 63 ∧ ∀ H', Q (.bl true) H'
theorem fn_law {f : Addr} {fd : FuncData} (T : Txt4 mg) (cC : FCellS P w K mg base) (cB : FBox P w K mg base) (cT : FTake P w K mg base) (cG : FGroups P w K mg base) (cA : FApart P w K mg base) (cD : FDeals P w K mg base) (cM : FCameR P w K mg base) (cS : FSingle P w K mg base) (hF : Fun K "law" "law" sLaw f fd) : FnOk P w K mg base CX0 8 f fd ["script"] (spLaw K) := by
  refine hF.ok scLaw (fun vs H Q E ⟨_, _, e, _⟩ => by rw [e]; rfl) (fun cdv A outer s H vs Q E hr ⟨a, ns, e, hS, hl, k⟩ => ⟨_, pssW, ?_⟩)
  subst e
  have S : Sta H [] H := ⟨fun a o h => .inl h, (fun _ z => by cases z), (fun _ z => by cases z), List.nodup_nil⟩
  have hv : Is (rSc K) H [] (.ref a) ns := ⟨rSc_of hS⟩
  refine wss_cons (ws_for (own := []) (R := []) (fun pre F' own' σ' => own' = [] ∧ ∃ b1 b2 b3 b4 b5, σ' = [some (.ref a), b1, b2, b3, b4, b5]) PassesOwn.never rfl
    (gi_rng1 rfl T.range (ge_max2 rfl rfl T.max ge_int (ge_min2 rfl rfl T.min (ge_lenS rfl T.len (ge_v (n := 0) rfl rfl hv)) ge_int)) ?_ ?_) S (gb_i scLaw.nd (i := 1) rfl (.inl rfl)) rfl (fun pre F' own' σ' R' _ hR => Sub.nil _)
    (fun F2 l2 => ⟨rfl, _, _, _, _, _, rfl⟩) ?_ ?_)
  · split <;> split <;> omega
  · split <;> split <;> omega
  · rintro pre kk post F3 F4 own' σ' H5 v5 σ1 R' eG l3 l4 hsR hR S5 ⟨rfl, b1, b2, b3, b4, b5, rfl⟩ rfl
    have hkm : 0 ≤ kk ∧ kk ≤ 10 := by
      have hm : kk ∈ pre ++ kk :: post := List.mem_append_right _ List.mem_cons_self
      rw [← eG, mem_rng] at hm
      revert hm
      split <;> split <;> omega
    have S5 : Sta F4 R' H5 := S5
    refine wss_cons (ws_setW scLaw.nd (n := 2) rfl (.inl rfl) (we_callA cB hr (by decide) rfl (wa1 (we_call2 cC hr rfl (ge_v (n := 0) rfl rfl hv) (ge_vi (n := 1) rfl rfl) S5 hkm fun g v6 F6 H6 l6 S6 h6 _ => ?_))))
    obtain rfl : v6 = .int g := h6.h
    refine ⟨F6, R', g, rfl, S6, fun d H7 x hx S7 => ?_⟩
    refine wss_cons (ws_setW scLaw.nd (n := 3) rfl (.inl rfl) (we_eq (we_callA cT hr (by decide) rfl (wa2 (we_var (n := 2) rfl rfl (GE.runI ge_int S7 fun H8 S8 => ⟨F6, R', d, x, 0, 2, rfl, S8, hx, by decide, by decide, by decide, fun F9 H9 x9 y l9 hx9 _ _ S9 => ⟨y, rfl, GE.runI ge_int S9 fun H10 S10 => ⟨1, rfl, ?_⟩⟩⟩))))))
    refine wss_one (ws_for (own := [(d, .lst (Bx.vs x9))]) (R := R') (fun pre F' own' σ' => ∃ x' q b4 b5, own' = [(d, .lst (Bx.vs x'))] ∧ BxOk x' (1 + 2000 * pre.length) ∧ pre.length ≤ 2 ∧ σ' = [some (.ref a), some (.int kk), some (.ref d), some (.bl q), b4, b5]) PassesOwn.never rfl
      (gi_rng1 (j := 2) rfl T.range ge_int (by decide) (by decide)) S10 (gb_i scLaw.nd (i := 4) rfl (.inl rfl)) rfl (fun pre F' own' σ' R' _ hR => Sub.nil _)
      (fun F11 l11 => ⟨x9, _, _, _, rfl, by simpa using hx9, by decide, rfl⟩) ?_ ?_)
    · rintro pre2 tn post2 F11 F12 own' σ' H12 v12 σ2 R2 eG2 l11 l12 hsR2 hR2 S12 ⟨x', q, b6, b7, rfl, hx', hp2, rfl⟩ rfl
      have hpl : pre2.length ≤ 1 := by
        have := congrArg List.length eG2
        rw [rng_length, List.length_append, List.length_cons] at this
        have : (2 : Int).toNat = 2 := rfl
        omega
      have S12 : Sta F12 ((d, .lst (Bx.vs x')) :: R2) H12 := S12
      refine wss_cons (ws_setW scLaw.nd (n := 5) rfl (.inl rfl) (we_callA cG hr (by decide) rfl (wa1 (we_var (n := 2) rfl rfl ⟨F12, R2, d, x', 1 + 2000 * pre2.length, rfl, S12, hx', by omega, fun F13 H13 x13 G v13 l13 hx13 hG _ S13 h13 => ?_⟩))))
      have h13' : Is (fz (rL (rL rI))) F13 ((d, .lst (Bx.vs x13)) :: R2) v13 G := ⟨h13.h⟩
      refine wss_cons (ws_ifF (GW.to (gw_or (p := false) (q := false) (gt_not (p := true) (gt_of (ge_call2u cD hr rfl (ge_v (n := 5) rfl rfl h13') (ge_vb (n := 3) rfl rfl) hG fun _ h => h))) fun _ => gw_or1 (gt_not (p := true) (gt_of (ge_call2u cM hr rfl (ge_v (n := 5) rfl rfl h13') (ge_not (ge_vb (n := 3) rfl rfl)) hG fun _ h => h))))) S13 fun H14 S14 => wss_nil ?_)
      refine wss_cons (ws_ifW (wt_not (wt_of (we_callA cS hr (by decide) rfl (wa2 (we_callA cA hr (by decide) rfl (wa1 (we_var (n := 2) rfl rfl ⟨F13, R2, d, x13, 1 + 2000 * pre2.length + 1000, rfl, S14, hx13, by omega, fun F15 H15 x15 G15 v15 l15 hx15 hG15 _ h60 S15 h15 => GE.runB (ge_vb (n := 3) rfl rfl) S15 fun H16 S16 => ?_⟩))))))))
      refine ⟨F15, _, v15, G15, .bl q, q, rfl, S16, ⟨h15.h⟩, ⟨rfl⟩, ⟨hG15, h60⟩, fun y v17 F17 H17 l17 S17 h17 ey => ?_⟩
      obtain rfl : v17 = .bl y := h17.h
      subst ey
      refine ⟨true, rfl, ?_⟩
      show if (!true) = true then _ else _
      rw [if_neg (by decide)]
      refine wss_nil (wss_one (ws_setB scLaw.nd (n := 3) rfl (.inl rfl) (ge_not (ge_vb (n := 3) rfl rfl)) S17 fun H18 S18 => ⟨F17, [(d, .lst (Bx.vs x15))], l13.le.trans (l15.le.trans l17.le), S18, x15, _, _, _, rfl, hx15.mono ?_, ?_, rfl⟩))
      · rw [List.length_append, List.length_singleton]; omega
      · rw [List.length_append, List.length_singleton]; omega
    · rintro F11 own' σ' H12 R2 l11 hsR2 hR2 S12 ⟨x', q, b6, b7, rfl, hx', hp2, rfl⟩
      exact ⟨F11, [], l6.le.trans (l9.le.trans l11.le), S12.drop.sub (by simpa using hR2), rfl, _, _, _, _, _, rfl⟩
  · rintro F3 own' σ' H5 R' l3 hsR hR S5 ⟨rfl, b1, b2, b3, b4, b5, rfl⟩
    exact wss_one (ws_retB ge_bl S5 fun H6 S6 => k H6)
end
end K97

-- part K98n
namespace K97
open PySem PySem.Spec PyProof.Rows L2 DL
theorem all_mk {l : PySem.W.OpenLaw} {w : World} {K : PySem.W.Frag} {h : Heap} {mg : Str → Option Value} {fa C : Addr} {f1 : Addr} {od1 an1 : Option Addr} {sl1 : Array (Option Value)} {oc1 kV1 dc1 pm1 cd1 ct1 : Value} {f2 : Addr} {od2 an2 : Option Addr} {sl2 : Array (Option Value)} {oc2 kV2 dc2 pm2 cd2 ct2 : Value} {f3 : Addr} {od3 an3 : Option Addr} {sl3 : Array (Option Value)} {oc3 kV3 dc3 pm3 cd3 ct3 : Value} {f4 : Addr} {od4 an4 : Option Addr} {sl4 : Array (Option Value)} {oc4 kV4 dc4 pm4 cd4 ct4 : Value} {f5 : Addr} {od5 an5 : Option Addr} {sl5 : Array (Option Value)} {oc5 kV5 dc5 pm5 cd5 ct5 : Value} {f6 : Addr} {od6 an6 : Option Addr} {sl6 : Array (Option Value)} {oc6 kV6 dc6 pm6 cd6 ct6 : Value} {f7 : Addr} {od7 an7 : Option Addr} {sl7 : Array (Option Value)} {oc7 kV7 dc7 pm7 cd7 ct7 : Value} {f8 : Addr} {od8 an8 : Option Addr} {sl8 : Array (Option Value)} {oc8 kV8 dc8 pm8 cd8 ct8 : Value} {f9 : Addr} {od9 an9 : Option Addr} {sl9 : Array (Option Value)} {oc9 kV9 dc9 pm9 cd9 ct9 : Value} {f10 : Addr} {od10 an10 : Option Addr} {sl10 : Array (Option Value)} {oc10 kV10 dc10 pm10 cd10 ct10 : Value} {f11 : Addr} {od11 an11 : Option Addr} {sl11 : Array (Option Value)} {oc11 kV11 dc11 pm11 cd11 ct11 : Value} {f12 : Addr} {od12 an12 : Option Addr} {sl12 : Array (Option Value)} {oc12 kV12 dc12 pm12 cd12 ct12 : Value} {f13 : Addr} {od13 an13 : Option Addr} {sl13 : Array (Option Value)} {oc13 kV13 dc13 pm13 cd13 ct13 : Value} {f14 : Addr} {od14 an14 : Option Addr} {sl14 : Array (Option Value)} {oc14 kV14 dc14 pm14 cd14 ct14 : Value} {f15 : Addr} {od15 an15 : Option Addr} {sl15 : Array (Option Value)} {oc15 kV15 dc15 pm15 cd15 ct15 : Value} {f16 : Addr} {od16 an16 : Option Addr} {sl16 : Array (Option Value)} {oc16 kV16 dc16 pm16 cd16 ct16 : Value} {f17 : Addr} {od17 an17 : Option Addr} {sl17 : Array (Option Value)} {oc17 kV17 dc17 pm17 cd17 ct17 : Value} {f18 : Addr} {od18 an18 : Option Addr} {sl18 : Array (Option Value)} {oc18 kV18 dc18 pm18 cd18 ct18 : Value} {f19 : Addr} {od19 an19 : Option Addr} {sl19 : Array (Option Value)} {oc19 kV19 dc19 pm19 cd19 ct19 : Value} {f20 : Addr} {od20 an20 : Option Addr} {sl20 : Array (Option Value)} {oc20 kV20 dc20 pm20 cd20 ct20 : Value} {f21 : Addr} {od21 an21 : Option Addr} {sl21 : Array (Option Value)} {oc21 kV21 dc21 pm21 cd21 ct21 : Value} {f22 : Addr} {od22 an22 : Option Addr} {sl22 : Array (Option Value)} {oc22 kV22 dc22 pm22 cd22 ct22 : Value} {f23 : Addr} {od23 an23 : Option Addr} {sl23 : Array (Option Value)} {oc23 kV23 dc23 pm23 cd23 ct23 : Value} {f24 : Addr} {od24 an24 : Option Addr} {sl24 : Array (Option Value)} {oc24 kV24 dc24 pm24 cd24 ct24 : Value} {f25 : Addr} {od25 an25 : Option Addr} {sl25 : Array (Option Value)} {oc25 kV25 dc25 pm25 cd25 ct25 : Value} {f26 : Addr} {od26 an26 : Option Addr} {sl26 : Array (Option Value)} {oc26 kV26 dc26 pm26 cd26 ct26 : Value} {f27 : Addr} {od27 an27 : Option Addr} {sl27 : Array (Option Value)} {oc27 kV27 dc27 pm27 cd27 ct27 : Value} {f28 : Addr} {od28 an28 : Option Addr} {sl28 : Array (Option Value)} {oc28 kV28 dc28 pm28 cd28 ct28 : Value} {f29 : Addr} {od29 an29 : Option Addr} {sl29 : Array (Option Value)} {oc29 kV29 dc29 pm29 cd29 ct29 : Value} {f30 : Addr} {od30 an30 : Option Addr} {sl30 : Array (Option Value)} {oc30 kV30 dc30 pm30 cd30 ct30 : Value} {f31 : Addr} {od31 an31 : Option Addr} {sl31 : Array (Option Value)} {oc31 kV31 dc31 pm31 cd31 ct31 : Value} {f32 : Addr} {od32 an32 : Option Addr} {sl32 : Array (Option Value)} {oc32 kV32 dc32 pm32 cd32 ct32 : Value} {f33 : Addr} {od33 an33 : Option Addr} {sl33 : Array (Option Value)} {oc33 kV33 dc33 pm33 cd33 ct33 : Value} {f34 : Addr} {od34 an34 : Option Addr} {sl34 : Array (Option Value)} {oc34 kV34 dc34 pm34 cd34 ct34 : Value} {f35 : Addr} {od35 an35 : Option Addr} {sl35 : Array (Option Value)} {oc35 kV35 dc35 pm35 cd35 ct35 : Value} {f36 : Addr} {od36 an36 : Option Addr} {sl36 : Array (Option Value)} {oc36 kV36 dc36 pm36 cd36 ct36 : Value} {f37 : Addr} {od37 an37 : Option Addr} {sl37 : Array (Option Value)} {oc37 kV37 dc37 pm37 cd37 ct37 : Value} {f38 : Addr} {od38 an38 : Option Addr} {sl38 : Array (Option Value)} {oc38 kV38 dc38 pm38 cd38 ct38 : Value} {f39 : Addr} {od39 an39 : Option Addr} {sl39 : Array (Option Value)} {oc39 kV39 dc39 pm39 cd39 ct39 : Value} {f40 : Addr} {od40 an40 : Option Addr} {sl40 : Array (Option Value)} {oc40 kV40 dc40 pm40 cd40 ct40 : Value} {f41 : Addr} {od41 an41 : Option Addr} {sl41 : Array (Option Value)} {oc41 kV41 dc41 pm41 cd41 ct41 : Value} {f42 : Addr} {od42 an42 : Option Addr} {sl42 : Array (Option Value)} {oc42 kV42 dc42 pm42 cd42 ct42 : Value} {t0 : Tok} {t1 : Tok} {t2 : Tok} {t3 : Tok} (X : K.In h) (G : h.Ns mainGlobals mg) (hfa : mg "law" = some (.ref fa))
    (a1 : PySem.W.nsIn K mainGlobals "is_whole" = some (some (.ref f1))) (l1 : K.lookup f1 = some ⟨oc1, od1, .func (PySem.W.fnOf "is_whole" "is_whole" (defArgs sIsWhole) (defBody sIsWhole) (defScope sIsWhole) .none kV1 dc1 pm1 an1 cd1 ct1), sl1⟩) (c1 : PySem.W.codeIn K cd1 "is_whole" = true) (k1 : PySem.W.keepIn K (.ref f1) = true)
    (a2 : PySem.W.nsIn K mainGlobals "is_from_to" = some (some (.ref f2))) (l2 : K.lookup f2 = some ⟨oc2, od2, .func (PySem.W.fnOf "is_from_to" "is_from_to" (defArgs sFromTo) (defBody sFromTo) (defScope sFromTo) .none kV2 dc2 pm2 an2 cd2 ct2), sl2⟩) (c2 : PySem.W.codeIn K cd2 "is_from_to" = true) (k2 : PySem.W.keepIn K (.ref f2) = true)
    (a3 : PySem.W.nsIn K mainGlobals "is_listed" = some (some (.ref f3))) (l3 : K.lookup f3 = some ⟨oc3, od3, .func (PySem.W.fnOf "is_listed" "is_listed" (defArgs sListed) (defBody sListed) (defScope sListed) .none kV3 dc3 pm3 an3 cd3 ct3), sl3⟩) (c3 : PySem.W.codeIn K cd3 "is_listed" = true) (k3 : PySem.W.keepIn K (.ref f3) = true)
    (a4 : PySem.W.nsIn K mainGlobals "are_unlike" = some (some (.ref f4))) (l4 : K.lookup f4 = some ⟨oc4, od4, .func (PySem.W.fnOf "are_unlike" "are_unlike" (defArgs sUnlike) (defBody sUnlike) (defScope sUnlike) .none kV4 dc4 pm4 an4 cd4 ct4), sl4⟩) (c4 : PySem.W.codeIn K cd4 "are_unlike" = true) (k4 : PySem.W.keepIn K (.ref f4) = true)
    (a5 : PySem.W.nsIn K mainGlobals "are_rising" = some (some (.ref f5))) (l5 : K.lookup f5 = some ⟨oc5, od5, .func (PySem.W.fnOf "are_rising" "are_rising" (defArgs sRising) (defBody sRising) (defScope sRising) .none kV5 dc5 pm5 an5 cd5 ct5), sl5⟩) (c5 : PySem.W.codeIn K cd5 "are_rising" = true) (k5 : PySem.W.keepIn K (.ref f5) = true)
    (a6 : PySem.W.nsIn K mainGlobals "is_group" = some (some (.ref f6))) (l6 : K.lookup f6 = some ⟨oc6, od6, .func (PySem.W.fnOf "is_group" "is_group" (defArgs sIsGroup) (defBody sIsGroup) (defScope sIsGroup) .none kV6 dc6 pm6 an6 cd6 ct6), sl6⟩) (c6 : PySem.W.codeIn K cd6 "is_group" = true) (k6 : PySem.W.keepIn K (.ref f6) = true)
    (a7 : PySem.W.nsIn K mainGlobals "are_groups" = some (some (.ref f7))) (l7 : K.lookup f7 = some ⟨oc7, od7, .func (PySem.W.fnOf "are_groups" "are_groups" (defArgs sAreGroups) (defBody sAreGroups) (defScope sAreGroups) .none kV7 dc7 pm7 an7 cd7 ct7), sl7⟩) (c7 : PySem.W.codeIn K cd7 "are_groups" = true) (k7 : PySem.W.keepIn K (.ref f7) = true)
    (a8 : PySem.W.nsIn K mainGlobals "check_groups" = some (some (.ref f8))) (l8 : K.lookup f8 = some ⟨oc8, od8, .func (PySem.W.fnOf "check_groups" "check_groups" (defArgs sCheckGroups) (defBody sCheckGroups) (defScope sCheckGroups) .none kV8 dc8 pm8 an8 cd8 ct8), sl8⟩) (c8 : PySem.W.codeIn K cd8 "check_groups" = true) (k8 : PySem.W.keepIn K (.ref f8) = true)
    (a9 : PySem.W.nsIn K mainGlobals "lowest" = some (some (.ref f9))) (l9 : K.lookup f9 = some ⟨oc9, od9, .func (PySem.W.fnOf "lowest" "lowest" (defArgs sLowest) (defBody sLowest) (defScope sLowest) .none kV9 dc9 pm9 an9 cd9 ct9), sl9⟩) (c9 : PySem.W.codeIn K cd9 "lowest" = true) (k9 : PySem.W.keepIn K (.ref f9) = true)
    (a10 : PySem.W.nsIn K mainGlobals "with_part" = some (some (.ref f10))) (l10 : K.lookup f10 = some ⟨oc10, od10, .func (PySem.W.fnOf "with_part" "with_part" (defArgs sWithPart) (defBody sWithPart) (defScope sWithPart) .none kV10 dc10 pm10 an10 cd10 ct10), sl10⟩) (c10 : PySem.W.codeIn K cd10 "with_part" = true) (k10 : PySem.W.keepIn K (.ref f10) = true)
    (a11 : PySem.W.nsIn K mainGlobals "shares_of" = some (some (.ref f11))) (l11 : K.lookup f11 = some ⟨oc11, od11, .func (PySem.W.fnOf "shares_of" "shares_of" (defArgs sSharesOf) (defBody sSharesOf) (defScope sSharesOf) .none kV11 dc11 pm11 an11 cd11 ct11), sl11⟩) (c11 : PySem.W.codeIn K cd11 "shares_of" = true) (k11 : PySem.W.keepIn K (.ref f11) = true)
    (a12 : PySem.W.nsIn K mainGlobals "shares" = some (some (.ref f12))) (l12 : K.lookup f12 = some ⟨oc12, od12, .func (PySem.W.fnOf "shares" "shares" (defArgs sShares) (defBody sShares) (defScope sShares) .none kV12 dc12 pm12 an12 cd12 ct12), sl12⟩) (c12 : PySem.W.codeIn K cd12 "shares" = true) (k12 : PySem.W.keepIn K (.ref f12) = true)
    (a13 : PySem.W.nsIn K mainGlobals "turns_of" = some (some (.ref f13))) (l13 : K.lookup f13 = some ⟨oc13, od13, .func (PySem.W.fnOf "turns_of" "turns_of" (defArgs sTurnsOf) (defBody sTurnsOf) (defScope sTurnsOf) .none kV13 dc13 pm13 an13 cd13 ct13), sl13⟩) (c13 : PySem.W.codeIn K cd13 "turns_of" = true) (k13 : PySem.W.keepIn K (.ref f13) = true)
    (a14 : PySem.W.nsIn K mainGlobals "way_from" = some (some (.ref f14))) (l14 : K.lookup f14 = some ⟨oc14, od14, .func (PySem.W.fnOf "way_from" "way_from" (defArgs sWayFrom) (defBody sWayFrom) (defScope sWayFrom) .none kV14 dc14 pm14 an14 cd14 ct14), sl14⟩) (c14 : PySem.W.codeIn K cd14 "way_from" = true) (k14 : PySem.W.keepIn K (.ref f14) = true)
    (a15 : PySem.W.nsIn K mainGlobals "given_on" = some (some (.ref f15))) (l15 : K.lookup f15 = some ⟨oc15, od15, .func (PySem.W.fnOf "given_on" "given_on" (defArgs sGivenOn) (defBody sGivenOn) (defScope sGivenOn) .none kV15 dc15 pm15 an15 cd15 ct15), sl15⟩) (c15 : PySem.W.codeIn K cd15 "given_on" = true) (k15 : PySem.W.keepIn K (.ref f15) = true)
    (a16 : PySem.W.nsIn K mainGlobals "lessened" = some (some (.ref f16))) (l16 : K.lookup f16 = some ⟨oc16, od16, .func (PySem.W.fnOf "lessened" "lessened" (defArgs sLessened) (defBody sLessened) (defScope sLessened) .none kV16 dc16 pm16 an16 cd16 ct16), sl16⟩) (c16 : PySem.W.codeIn K cd16 "lessened" = true) (k16 : PySem.W.keepIn K (.ref f16) = true)
    (a17 : PySem.W.nsIn K mainGlobals "raised" = some (some (.ref f17))) (l17 : K.lookup f17 = some ⟨oc17, od17, .func (PySem.W.fnOf "raised" "raised" (defArgs sRaised) (defBody sRaised) (defScope sRaised) .none kV17 dc17 pm17 an17 cd17 ct17), sl17⟩) (c17 : PySem.W.codeIn K cd17 "raised" = true) (k17 : PySem.W.keepIn K (.ref f17) = true)
    (a18 : PySem.W.nsIn K mainGlobals "fair_turns" = some (some (.ref f18))) (l18 : K.lookup f18 = some ⟨oc18, od18, .func (PySem.W.fnOf "fair_turns" "fair_turns" (defArgs sFairTurns) (defBody sFairTurns) (defScope sFairTurns) .none kV18 dc18 pm18 an18 cd18 ct18), sl18⟩) (c18 : PySem.W.codeIn K cd18 "fair_turns" = true) (k18 : PySem.W.keepIn K (.ref f18) = true)
    (a19 : PySem.W.nsIn K mainGlobals "is_fair" = some (some (.ref f19))) (l19 : K.lookup f19 = some ⟨oc19, od19, .func (PySem.W.fnOf "is_fair" "is_fair" (defArgs sIsFair) (defBody sIsFair) (defScope sIsFair) .none kV19 dc19 pm19 an19 cd19 ct19), sl19⟩) (c19 : PySem.W.codeIn K cd19 "is_fair" = true) (k19 : PySem.W.keepIn K (.ref f19) = true)
    (a20 : PySem.W.nsIn K mainGlobals "are_duties" = some (some (.ref f20))) (l20 : K.lookup f20 = some ⟨oc20, od20, .func (PySem.W.fnOf "are_duties" "are_duties" (defArgs sAreDuties) (defBody sAreDuties) (defScope sAreDuties) .none kV20 dc20 pm20 an20 cd20 ct20), sl20⟩) (c20 : PySem.W.codeIn K cd20 "are_duties" = true) (k20 : PySem.W.keepIn K (.ref f20) = true)
    (a21 : PySem.W.nsIn K mainGlobals "is_able" = some (some (.ref f21))) (l21 : K.lookup f21 = some ⟨oc21, od21, .func (PySem.W.fnOf "is_able" "is_able" (defArgs sIsAble) (defBody sIsAble) (defScope sIsAble) .none kV21 dc21 pm21 an21 cd21 ct21), sl21⟩) (c21 : PySem.W.codeIn K cd21 "is_able" = true) (k21 : PySem.W.keepIn K (.ref f21) = true)
    (a22 : PySem.W.nsIn K mainGlobals "check_able" = some (some (.ref f22))) (l22 : K.lookup f22 = some ⟨oc22, od22, .func (PySem.W.fnOf "check_able" "check_able" (defArgs sCheckAble) (defBody sCheckAble) (defScope sCheckAble) .none kV22 dc22 pm22 an22 cd22 ct22), sl22⟩) (c22 : PySem.W.codeIn K cd22 "check_able" = true) (k22 : PySem.W.keepIn K (.ref f22) = true)
    (a23 : PySem.W.nsIn K mainGlobals "reached_from" = some (some (.ref f23))) (l23 : K.lookup f23 = some ⟨oc23, od23, .func (PySem.W.fnOf "reached_from" "reached_from" (defArgs sReached) (defBody sReached) (defScope sReached) .none kV23 dc23 pm23 an23 cd23 ct23), sl23⟩) (c23 : PySem.W.codeIn K cd23 "reached_from" = true) (k23 : PySem.W.keepIn K (.ref f23) = true)
    (a24 : PySem.W.nsIn K mainGlobals "doers_of" = some (some (.ref f24))) (l24 : K.lookup f24 = some ⟨oc24, od24, .func (PySem.W.fnOf "doers_of" "doers_of" (defArgs sDoers) (defBody sDoers) (defScope sDoers) .none kV24 dc24 pm24 an24 cd24 ct24), sl24⟩) (c24 : PySem.W.codeIn K cd24 "doers_of" = true) (k24 : PySem.W.keepIn K (.ref f24) = true)
    (a25 : PySem.W.nsIn K mainGlobals "most_done" = some (some (.ref f25))) (l25 : K.lookup f25 = some ⟨oc25, od25, .func (PySem.W.fnOf "most_done" "most_done" (defArgs sMostDone) (defBody sMostDone) (defScope sMostDone) .none kV25 dc25 pm25 an25 cd25 ct25), sl25⟩) (c25 : PySem.W.codeIn K cd25 "most_done" = true) (k25 : PySem.W.keepIn K (.ref f25) = true)
    (a26 : PySem.W.nsIn K mainGlobals "is_done" = some (some (.ref f26))) (l26 : K.lookup f26 = some ⟨oc26, od26, .func (PySem.W.fnOf "is_done" "is_done" (defArgs sIsDone) (defBody sIsDone) (defScope sIsDone) .none kV26 dc26 pm26 an26 cd26 ct26), sl26⟩) (c26 : PySem.W.codeIn K cd26 "is_done" = true) (k26 : PySem.W.keepIn K (.ref f26) = true)
    (a27 : PySem.W.nsIn K mainGlobals "lacking" = some (some (.ref f27))) (l27 : K.lookup f27 = some ⟨oc27, od27, .func (PySem.W.fnOf "lacking" "lacking" (defArgs sLacking) (defBody sLacking) (defScope sLacking) .none kV27 dc27 pm27 an27 cd27 ct27), sl27⟩) (c27 : PySem.W.codeIn K cd27 "lacking" = true) (k27 : PySem.W.keepIn K (.ref f27) = true)
    (a28 : PySem.W.nsIn K mainGlobals "_law_cell" = some (some (.ref f28))) (l28 : K.lookup f28 = some ⟨oc28, od28, .func (PySem.W.fnOf "_law_cell" "_law_cell" (defArgs sCell) (defBody sCell) (defScope sCell) .none kV28 dc28 pm28 an28 cd28 ct28), sl28⟩) (c28 : PySem.W.codeIn K cd28 "_law_cell" = true) (k28 : PySem.W.keepIn K (.ref f28) = true)
    (a29 : PySem.W.nsIn K mainGlobals "_law_box" = some (some (.ref f29))) (l29 : K.lookup f29 = some ⟨oc29, od29, .func (PySem.W.fnOf "_law_box" "_law_box" (defArgs sBox) (defBody sBox) (defScope sBox) .none kV29 dc29 pm29 an29 cd29 ct29), sl29⟩) (c29 : PySem.W.codeIn K cd29 "_law_box" = true) (k29 : PySem.W.keepIn K (.ref f29) = true)
    (a30 : PySem.W.nsIn K mainGlobals "_law_take" = some (some (.ref f30))) (l30 : K.lookup f30 = some ⟨oc30, od30, .func (PySem.W.fnOf "_law_take" "_law_take" (defArgs sTake) (defBody sTake) (defScope sTake) .none kV30 dc30 pm30 an30 cd30 ct30), sl30⟩) (c30 : PySem.W.codeIn K cd30 "_law_take" = true) (k30 : PySem.W.keepIn K (.ref f30) = true)
    (a31 : PySem.W.nsIn K mainGlobals "_law_mixed" = some (some (.ref f31))) (l31 : K.lookup f31 = some ⟨oc31, od31, .func (PySem.W.fnOf "_law_mixed" "_law_mixed" (defArgs sMixed) (defBody sMixed) (defScope sMixed) .none kV31 dc31 pm31 an31 cd31 ct31), sl31⟩) (c31 : PySem.W.codeIn K cd31 "_law_mixed" = true) (k31 : PySem.W.keepIn K (.ref f31) = true)
    (a32 : PySem.W.nsIn K mainGlobals "_law_groups" = some (some (.ref f32))) (l32 : K.lookup f32 = some ⟨oc32, od32, .func (PySem.W.fnOf "_law_groups" "_law_groups" (defArgs sGroups) (defBody sGroups) (defScope sGroups) .none kV32 dc32 pm32 an32 cd32 ct32), sl32⟩) (c32 : PySem.W.codeIn K cd32 "_law_groups" = true) (k32 : PySem.W.keepIn K (.ref f32) = true)
    (a33 : PySem.W.nsIn K mainGlobals "_law_apart" = some (some (.ref f33))) (l33 : K.lookup f33 = some ⟨oc33, od33, .func (PySem.W.fnOf "_law_apart" "_law_apart" (defArgs sApart) (defBody sApart) (defScope sApart) .none kV33 dc33 pm33 an33 cd33 ct33), sl33⟩) (c33 : PySem.W.codeIn K cd33 "_law_apart" = true) (k33 : PySem.W.keepIn K (.ref f33) = true)
    (a34 : PySem.W.nsIn K mainGlobals "_law_up" = some (some (.ref f34))) (l34 : K.lookup f34 = some ⟨oc34, od34, .func (PySem.W.fnOf "_law_up" "_law_up" (defArgs sUp) (defBody sUp) (defScope sUp) .none kV34 dc34 pm34 an34 cd34 ct34), sl34⟩) (c34 : PySem.W.codeIn K cd34 "_law_up" = true) (k34 : PySem.W.keepIn K (.ref f34) = true)
    (a35 : PySem.W.nsIn K mainGlobals "_law_deals_right" = some (some (.ref f35))) (l35 : K.lookup f35 = some ⟨oc35, od35, .func (PySem.W.fnOf "_law_deals_right" "_law_deals_right" (defArgs sDeals) (defBody sDeals) (defScope sDeals) .none kV35 dc35 pm35 an35 cd35 ct35), sl35⟩) (c35 : PySem.W.codeIn K cd35 "_law_deals_right" = true) (k35 : PySem.W.keepIn K (.ref f35) = true)
    (a36 : PySem.W.nsIn K mainGlobals "_law_single_right" = some (some (.ref f36))) (l36 : K.lookup f36 = some ⟨oc36, od36, .func (PySem.W.fnOf "_law_single_right" "_law_single_right" (defArgs sSingle) (defBody sSingle) (defScope sSingle) .none kV36 dc36 pm36 an36 cd36 ct36), sl36⟩) (c36 : PySem.W.codeIn K cd36 "_law_single_right" = true) (k36 : PySem.W.keepIn K (.ref f36) = true)
    (a37 : PySem.W.nsIn K mainGlobals "_law_came_right" = some (some (.ref f37))) (l37 : K.lookup f37 = some ⟨oc37, od37, .func (PySem.W.fnOf "_law_came_right" "_law_came_right" (defArgs sCameR) (defBody sCameR) (defScope sCameR) .none kV37 dc37 pm37 an37 cd37 ct37), sl37⟩) (c37 : PySem.W.codeIn K cd37 "_law_came_right" = true) (k37 : PySem.W.keepIn K (.ref f37) = true)
    (a38 : PySem.W.nsIn K mainGlobals "law" = some (some (.ref f38))) (l38 : K.lookup f38 = some ⟨oc38, od38, .func (PySem.W.fnOf "law" "law" (defArgs sLaw) (defBody sLaw) (defScope sLaw) .none kV38 dc38 pm38 an38 cd38 ct38), sl38⟩) (c38 : PySem.W.codeIn K cd38 "law" = true) (k38 : PySem.W.keepIn K (.ref f38) = true)
    (aC : PySem.W.nsIn K mainGlobals "Turns" = some (some (.ref C)))
    (a39 : PySem.W.findIn K (.ref C) "__init__" = some (some (.ref f39))) (i39 : PySem.W.isFn K (.ref f39) = true) (l39 : K.lookup f39 = some ⟨oc39, od39, .func (PySem.W.fnOf "__init__" "Turns.__init__" (defArgs sTInit) (defBody sTInit) (defScope sTInit) .none kV39 dc39 pm39 an39 cd39 ct39), sl39⟩) (c39 : PySem.W.codeIn K cd39 "Turns.__init__" = true) (k39 : PySem.W.keepIn K (.ref f39) = true)
    (a40 : PySem.W.findIn K (.ref C) "_debt" = some (some (.ref f40))) (i40 : PySem.W.isFn K (.ref f40) = true) (l40 : K.lookup f40 = some ⟨oc40, od40, .func (PySem.W.fnOf "_debt" "Turns._debt" (defArgs sDebt) (defBody sDebt) (defScope sDebt) .none kV40 dc40 pm40 an40 cd40 ct40), sl40⟩) (c40 : PySem.W.codeIn K cd40 "Turns._debt" = true) (k40 : PySem.W.keepIn K (.ref f40) = true)
    (a41 : PySem.W.findIn K (.ref C) "came" = some (some (.ref f41))) (i41 : PySem.W.isFn K (.ref f41) = true) (l41 : K.lookup f41 = some ⟨oc41, od41, .func (PySem.W.fnOf "came" "Turns.came" (defArgs sCame) (defBody sCame) (defScope sCame) .none kV41 dc41 pm41 an41 cd41 ct41), sl41⟩) (c41 : PySem.W.codeIn K cd41 "Turns.came" = true) (k41 : PySem.W.keepIn K (.ref f41) = true)
    (a42 : PySem.W.findIn K (.ref C) "debts" = some (some (.ref f42))) (i42 : PySem.W.isFn K (.ref f42) = true) (l42 : K.lookup f42 = some ⟨oc42, od42, .func (PySem.W.fnOf "debts" "Turns.debts" (defArgs sDebts) (defBody sDebts) (defScope sDebts) .none kV42 dc42 pm42 an42 cd42 ct42), sl42⟩) (c42 : PySem.W.codeIn K cd42 "Turns.debts" = true) (k42 : PySem.W.keepIn K (.ref f42) = true)
    (pg : PySem.W.plainGet K C Str.empty = true) (hd : PySem.W.hasDictIn K C = true) (po : PySem.W.plainOver K C = true) (sa : PySem.W.findIn K (.ref C) "__setattr__" = some (some (.builtin "object.__setattr__"))) (mk : PySem.W.makesIn K C = true) (kc : PySem.W.keepIn K (.ref C) = true) (nS : PySem.W.findIn K (.ref C) "_shares" = some none) (nT : PySem.W.findIn K (.ref C) "_taken" = some none)
    (v0 : PySem.W.nsIn K mainGlobals "MOST_GROUPS" = some (some (.int 60 t0)))
    (v1 : PySem.W.nsIn K mainGlobals "MOST_PEOPLE_turns" = some (some (.int 30 t1)))
    (v2 : PySem.W.nsIn K mainGlobals "MOST_PEOPLE_dealing" = some (some (.int 60 t2)))
    (v3 : PySem.W.nsIn K mainGlobals "MOST_DUTIES" = some (some (.int 60 t3)))
    (z0 : PySem.W.nsIn K mainGlobals "isinstance" = some none)
    (z1 : PySem.W.nsIn K mainGlobals "int" = some none)
    (z2 : PySem.W.nsIn K mainGlobals "bool" = some none)
    (z3 : PySem.W.nsIn K mainGlobals "list" = some none)
    (z4 : PySem.W.nsIn K mainGlobals "tuple" = some none)
    (z5 : PySem.W.nsIn K mainGlobals "all" = some none)
    (z6 : PySem.W.nsIn K mainGlobals "range" = some none)
    (z7 : PySem.W.nsIn K mainGlobals "len" = some none)
    (z8 : PySem.W.nsIn K mainGlobals "abs" = some none)
    (z9 : PySem.W.nsIn K mainGlobals "sorted" = some none)
    (z10 : PySem.W.nsIn K mainGlobals "enumerate" = some none)
    (z11 : PySem.W.nsIn K mainGlobals "zip" = some none)
    (z12 : PySem.W.nsIn K mainGlobals "sum" = some none)
    (z13 : PySem.W.nsIn K mainGlobals "min" = some none)
    (z14 : PySem.W.nsIn K mainGlobals "max" = some none)
    (z15 : PySem.W.nsIn K mainGlobals "set" = some none)
    (z16 : PySem.W.nsIn K mainGlobals "dict" = some none) :
    ∃ fd : FuncData, (∀ (s : Shared) (v : Value), BindsTo s fd ⟨[v], []⟩ [("script", v)]) ∧ ∀ base : Heap, K.In base → base.Ns mainGlobals mg → FnOk l.prog w K mg base CX0 8 fa fd ["script"] (spLaw K) := by
  have e := hfa.symm.trans (PySem.W.mg_of X G a38)
  cases e
  have T0 : Txt mg := ⟨(PySem.W.mg_none_of X G z0), (PySem.W.mg_none_of X G z1), (PySem.W.mg_none_of X G z2), (PySem.W.mg_none_of X G z3), (PySem.W.mg_none_of X G z4), (PySem.W.mg_none_of X G z5), (PySem.W.mg_none_of X G z6), (PySem.W.mg_none_of X G z7), (PySem.W.mg_none_of X G z8), ⟨_, PySem.W.mg_of X G v1⟩, ⟨_, PySem.W.mg_of X G v0⟩⟩
  have T2 : Txt2 mg := ⟨T0, (PySem.W.mg_none_of X G z9), (PySem.W.mg_none_of X G z10), (PySem.W.mg_none_of X G z11)⟩
  have T3 : Txt3 mg := ⟨T2, ⟨_, PySem.W.mg_of X G v2⟩, ⟨_, PySem.W.mg_of X G v3⟩⟩
  have T4 : Txt4 mg := ⟨T3, (PySem.W.mg_none_of X G z12), (PySem.W.mg_none_of X G z13), (PySem.W.mg_none_of X G z14), (PySem.W.mg_none_of X G z15), (PySem.W.mg_none_of X G z16)⟩
  have TT : TxtT K mg C := ⟨T2, ⟨pg, hd, po, sa⟩, nS, nT, PySem.W.mg_of X G aC⟩
  have F1 := fun_mk (st := sIsWhole) l1 c1 k1
  have b1 := F1.binds (ps := ["value"]) fun _ _ _ _ _ _ us hl => match us, hl with | [_], _ => rfl
  have m1 := PySem.W.mg_of X G a1
  have F2 := fun_mk (st := sFromTo) l2 c2 k2
  have b2 := F2.binds (ps := ["value", "low", "high"]) fun _ _ _ _ _ _ us hl => match us, hl with | [_, _, _], _ => rfl
  have m2 := PySem.W.mg_of X G a2
  have F3 := fun_mk (st := sListed) l3 c3 k3
  have b3 := F3.binds (ps := ["value"]) fun _ _ _ _ _ _ us hl => match us, hl with | [_], _ => rfl
  have m3 := PySem.W.mg_of X G a3
  have F4 := fun_mk (st := sUnlike) l4 c4 k4
  have b4 := F4.binds (ps := ["items"]) fun _ _ _ _ _ _ us hl => match us, hl with | [_], _ => rfl
  have m4 := PySem.W.mg_of X G a4
  have F5 := fun_mk (st := sRising) l5 c5 k5
  have b5 := F5.binds (ps := ["items"]) fun _ _ _ _ _ _ us hl => match us, hl with | [_], _ => rfl
  have m5 := PySem.W.mg_of X G a5
  have F6 := fun_mk (st := sIsGroup) l6 c6 k6
  have b6 := F6.binds (ps := ["value"]) fun _ _ _ _ _ _ us hl => match us, hl with | [_], _ => rfl
  have m6 := PySem.W.mg_of X G a6
  have F7 := fun_mk (st := sAreGroups) l7 c7 k7
  have b7 := F7.binds (ps := ["value"]) fun _ _ _ _ _ _ us hl => match us, hl with | [_], _ => rfl
  have m7 := PySem.W.mg_of X G a7
  have F8 := fun_mk (st := sCheckGroups) l8 c8 k8
  have b8 := F8.binds (ps := ["groups"]) fun _ _ _ _ _ _ us hl => match us, hl with | [_], _ => rfl
  have m8 := PySem.W.mg_of X G a8
  have F9 := fun_mk (st := sLowest) l9 c9 k9
  have b9 := F9.binds (ps := ["top", "bottom"]) fun _ _ _ _ _ _ us hl => match us, hl with | [_, _], _ => rfl
  have m9 := PySem.W.mg_of X G a9
  have F10 := fun_mk (st := sWithPart) l10 c10 k10
  have b10 := F10.binds (ps := ["share", "many"]) fun _ _ _ _ _ _ us hl => match us, hl with | [_, _], _ => rfl
  have m10 := PySem.W.mg_of X G a10
  have F11 := fun_mk (st := sSharesOf) l11 c11 k11
  have b11 := F11.binds (ps := ["groups"]) fun _ _ _ _ _ _ us hl => match us, hl with | [_], _ => rfl
  have m11 := PySem.W.mg_of X G a11
  have F12 := fun_mk (st := sShares) l12 c12 k12
  have b12 := F12.binds (ps := ["groups"]) fun _ _ _ _ _ _ us hl => match us, hl with | [_], _ => rfl
  have m12 := PySem.W.mg_of X G a12
  have F13 := fun_mk (st := sTurnsOf) l13 c13 k13
  have b13 := F13.binds (ps := ["taken"]) fun _ _ _ _ _ _ us hl => match us, hl with | [_], _ => rfl
  have m13 := PySem.W.mg_of X G a13
  have F14 := fun_mk (st := sWayFrom) l14 c14 k14
  have b14 := F14.binds (ps := ["groups", "taken", "start", "ends"]) fun _ _ _ _ _ _ us hl => match us, hl with | [_, _, _, _], _ => rfl
  have m14 := PySem.W.mg_of X G a14
  have F15 := fun_mk (st := sGivenOn) l15 c15 k15
  have b15 := F15.binds (ps := ["taken", "way"]) fun _ _ _ _ _ _ us hl => match us, hl with | [_, _], _ => rfl
  have m15 := PySem.W.mg_of X G a15
  have F16 := fun_mk (st := sLessened) l16 c16 k16
  have b16 := F16.binds (ps := ["groups", "taken", "bounds"]) fun _ _ _ _ _ _ us hl => match us, hl with | [_, _, _], _ => rfl
  have m16 := PySem.W.mg_of X G a16
  have F17 := fun_mk (st := sRaised) l17 c17 k17
  have b17 := F17.binds (ps := ["groups", "taken", "bounds"]) fun _ _ _ _ _ _ us hl => match us, hl with | [_, _, _], _ => rfl
  have m17 := PySem.W.mg_of X G a17
  have F18 := fun_mk (st := sFairTurns) l18 c18 k18
  have b18 := F18.binds (ps := ["groups"]) fun _ _ _ _ _ _ us hl => match us, hl with | [_], _ => rfl
  have m18 := PySem.W.mg_of X G a18
  have F19 := fun_mk (st := sIsFair) l19 c19 k19
  have b19 := F19.binds (ps := ["groups", "value"]) fun _ _ _ _ _ _ us hl => match us, hl with | [_, _], _ => rfl
  have m19 := PySem.W.mg_of X G a19
  have F20 := fun_mk (st := sAreDuties) l20 c20 k20
  have b20 := F20.binds (ps := ["value"]) fun _ _ _ _ _ _ us hl => match us, hl with | [_], _ => rfl
  have m20 := PySem.W.mg_of X G a20
  have F21 := fun_mk (st := sIsAble) l21 c21 k21
  have b21 := F21.binds (ps := ["value"]) fun _ _ _ _ _ _ us hl => match us, hl with | [_], _ => rfl
  have m21 := PySem.W.mg_of X G a21
  have F22 := fun_mk (st := sCheckAble) l22 c22 k22
  have b22 := F22.binds (ps := ["able"]) fun _ _ _ _ _ _ us hl => match us, hl with | [_], _ => rfl
  have m22 := PySem.W.mg_of X G a22
  have F23 := fun_mk (st := sReached) l23 c23 k23
  have b23 := F23.binds (ps := ["able", "doer", "starts"]) fun _ _ _ _ _ _ us hl => match us, hl with | [_, _, _], _ => rfl
  have m23 := PySem.W.mg_of X G a23
  have F24 := fun_mk (st := sDoers) l24 c24 k24
  have b24 := F24.binds (ps := ["able"]) fun _ _ _ _ _ _ us hl => match us, hl with | [_], _ => rfl
  have m24 := PySem.W.mg_of X G a24
  have F25 := fun_mk (st := sMostDone) l25 c25 k25
  have b25 := F25.binds (ps := ["able"]) fun _ _ _ _ _ _ us hl => match us, hl with | [_], _ => rfl
  have m25 := PySem.W.mg_of X G a25
  have F26 := fun_mk (st := sIsDone) l26 c26 k26
  have b26 := F26.binds (ps := ["able", "value"]) fun _ _ _ _ _ _ us hl => match us, hl with | [_, _], _ => rfl
  have m26 := PySem.W.mg_of X G a26
  have F27 := fun_mk (st := sLacking) l27 c27 k27
  have b27 := F27.binds (ps := ["able", "wanted"]) fun _ _ _ _ _ _ us hl => match us, hl with | [_, _], _ => rfl
  have m27 := PySem.W.mg_of X G a27
  have F28 := fun_mk (st := sCell) l28 c28 k28
  have b28 := F28.binds (ps := ["script", "k"]) fun _ _ _ _ _ _ us hl => match us, hl with | [_, _], _ => rfl
  have m28 := PySem.W.mg_of X G a28
  have F29 := fun_mk (st := sBox) l29 c29 k29
  have b29 := F29.binds (ps := ["great"]) fun _ _ _ _ _ _ us hl => match us, hl with | [_], _ => rfl
  have m29 := PySem.W.mg_of X G a29
  have F30 := fun_mk (st := sTake) l30 c30 k30
  have b30 := F30.binds (ps := ["box", "many"]) fun _ _ _ _ _ _ us hl => match us, hl with | [_, _], _ => rfl
  have m30 := PySem.W.mg_of X G a30
  have F31 := fun_mk (st := sMixed) l31 c31 k31
  have b31 := F31.binds (ps := ["box", "items"]) fun _ _ _ _ _ _ us hl => match us, hl with | [_, _], _ => rfl
  have m31 := PySem.W.mg_of X G a31
  have F32 := fun_mk (st := sGroups) l32 c32 k32
  have b32 := F32.binds (ps := ["box"]) fun _ _ _ _ _ _ us hl => match us, hl with | [_], _ => rfl
  have m32 := PySem.W.mg_of X G a32
  have F33 := fun_mk (st := sApart) l33 c33 k33
  have b33 := F33.binds (ps := ["box"]) fun _ _ _ _ _ _ us hl => match us, hl with | [_], _ => rfl
  have m33 := PySem.W.mg_of X G a33
  have F34 := fun_mk (st := sUp) l34 c34 k34
  have b34 := F34.binds (ps := ["top", "bottom"]) fun _ _ _ _ _ _ us hl => match us, hl with | [_, _], _ => rfl
  have m34 := PySem.W.mg_of X G a34
  have F35 := fun_mk (st := sDeals) l35 c35 k35
  have b35 := F35.binds (ps := ["groups", "by_name"]) fun _ _ _ _ _ _ us hl => match us, hl with | [_, _], _ => rfl
  have m35 := PySem.W.mg_of X G a35
  have F36 := fun_mk (st := sSingle) l36 c36 k36
  have b36 := F36.binds (ps := ["groups", "by_name"]) fun _ _ _ _ _ _ us hl => match us, hl with | [_, _], _ => rfl
  have m36 := PySem.W.mg_of X G a36
  have F37 := fun_mk (st := sCameR) l37 c37 k37
  have b37 := F37.binds (ps := ["groups", "by_name"]) fun _ _ _ _ _ _ us hl => match us, hl with | [_, _], _ => rfl
  have m37 := PySem.W.mg_of X G a37
  have F38 := fun_mk (st := sLaw) l38 c38 k38
  have b38 := F38.binds (ps := ["script"]) fun _ _ _ _ _ _ us hl => match us, hl with | [_], _ => rfl
  have m38 := PySem.W.mg_of X G a38
  have F39 := fun_mk (st := sTInit) l39 c39 k39
  have b39 := F39.binds (ps := ["self"]) fun _ _ _ _ _ _ us hl => match us, hl with | [_], _ => rfl
  have F40 := fun_mk (st := sDebt) l40 c40 k40
  have b40 := F40.binds (ps := ["self", "person"]) fun _ _ _ _ _ _ us hl => match us, hl with | [_, _], _ => rfl
  have F41 := fun_mk (st := sCame) l41 c41 k41
  have b41 := F41.binds (ps := ["self", "group"]) fun _ _ _ _ _ _ us hl => match us, hl with | [_, _], _ => rfl
  have F42 := fun_mk (st := sDebts) l42 c42 k42
  have b42 := F42.binds (ps := ["self"]) fun _ _ _ _ _ _ us hl => match us, hl with | [_], _ => rfl
  refine ⟨PySem.W.fnOf "law" "law" (defArgs sLaw) (defBody sLaw) (defScope sLaw) .none kV38 dc38 pm38 an38 cd38 ct38, fun s v => .of_eq rfl, fun base _ _ => ?_⟩
  have q_whole : FIsWhole l.prog w K mg base := fn_is_whole T0 F1 m1 b1
  have q_ft : FFromTo l.prog w K mg base := fn_from_to T0 q_whole F2 m2 b2
  have q_li : FListed rI l.prog w K mg base := fn_listed rI T0 F3 m3 b3
  have q_lll : FListed (rL rI) l.prog w K mg base := fn_listed (rL rI) T0 F3 m3 b3
  have q_lo : FListed (rO rI) l.prog w K mg base := fn_listed (rO rI) T0 F3 m3 b3
  have q_ri : FRising l.prog w K mg base := fn_rising T0 F5 m5 b5
  have q_un : FUnlike l.prog w K mg base := fn_unlike T3 F4 m4 b4
  have q_g : FIsGroup l.prog w K mg base := fn_is_group T0 q_li q_ft q_ri F6 m6 b6
  have q_gs : FAreGroups l.prog w K mg base := fn_are_groups T0 q_lll q_g F7 m7 b7
  have q_cg : FCheckGroups l.prog w K mg base := fn_check_groups T0 q_gs F8 m8 b8
  have q_low : FLowest l.prog w K mg base := fn_lowest T0 F9 m9 b9
  have q_wp : FWithPart l.prog w K mg base := fn_with_part T0 q_low F10 m10 b10
  have q_so : FSharesOf l.prog w K mg base := fn_shares_of T0 q_wp F11 m11 b11
  have q_sh : FShares l.prog w K mg base := fn_shares T2 q_cg q_so F12 m12 b12
  have q_to : FTurnsOf l.prog w K mg base := fn_turns_of T0 F13 m13 b13
  have q_wf : FWayFrom l.prog w K mg base := fn_way_from T2 F14 m14 b14
  have q_go : FGivenOn l.prog w K mg base := fn_given_on T0 F15 m15 b15
  have q_le : FLessened l.prog w K mg base := fn_lessened T2 q_to q_wf q_go F16 m16 b16
  have q_ra : FRaised l.prog w K mg base := fn_raised T2 q_to q_wf q_go F17 m17 b17
  have q_fair : FFairTurns l.prog w K mg base := fn_fair_turns T2 q_cg q_so q_le q_ra F18 m18 b18
  have q_if : FIsFair l.prog w K mg base := fn_is_fair T2 q_cg q_li q_ft q_to q_so F19 m19 b19
  have q_in : FTInit l.prog w K mg base C f39 (PySem.W.fnOf "__init__" "Turns.__init__" (defArgs sTInit) (defBody sTInit) (defScope sTInit) .none kV39 dc39 pm39 an39 cd39 ct39) := fn_tinit TT F39
  have q_db : FDebt l.prog w K mg base C := fn_debt TT F40 ⟨a40, i40, k40⟩ b40
  have q_dbs : FDebts l.prog w K mg base C := fn_debts TT q_db F42 ⟨a42, i42, k42⟩ b42
  have q_came : FCame l.prog w K mg base C := fn_came TT q_g q_wp q_db F41 ⟨a41, i41, k41⟩ b41
  have q_ad : FAreDuties l.prog w K mg base := fn_are_duties T3 q_li q_ft q_ri F20 m20 b20
  have q_ia : FIsAble l.prog w K mg base := fn_is_able T3 q_lll q_ad F21 m21 b21
  have q_ca : FCheckAble l.prog w K mg base := fn_check_able T3 q_ia F22 m22 b22
  have q_rf : FReached l.prog w K mg base := fn_reached T3 F23 m23 b23
  have q_do : FDoers l.prog w K mg base := fn_doers T3 q_rf F24 m24 b24
  have q_md : FMostDone l.prog w K mg base := fn_most_done T3 q_ca q_do F25 m25 b25
  have q_id : FIsDone l.prog w K mg base := fn_is_done T3 q_ca q_lo q_ft q_un F26 m26 b26
  have q_la : FLacking l.prog w K mg base := fn_lacking T3 q_ca q_ad q_do F27 m27 b27
  have q_ce : FCellS l.prog w K mg base := fn_cellS T4 F28 m28 b28
  have q_bo : FBox l.prog w K mg base := fn_box T4 F29 m29 b29
  have q_ta : FTake l.prog w K mg base := fn_take T4 F30 m30 b30
  have q_mi : FMixed l.prog w K mg base := fn_mixed T4 q_ta F31 m31 b31
  have q_gr : FGroups l.prog w K mg base := fn_groups T4 q_ta q_mi F32 m32 b32
  have q_ap : FApart l.prog w K mg base := fn_apart T4 q_ta q_mi F33 m33 b33
  have q_up : FUp l.prog w K mg base := fn_up F34 m34 b34
  have q_de : FDeals l.prog w K mg base := fn_deals T4 q_sh q_up q_fair q_if q_md q_id F35 m35 b35
  have q_si : FSingle l.prog w K mg base := fn_single T4 q_sh q_fair q_md q_id q_la F36 m36 b36
  have q_cr : FCameR l.prog w K mg base := fn_camer T4 TT ⟨mk, a39, i39, kc⟩ q_in b39 q_came q_dbs q_sh q_if F37 m37 b37
  exact fn_law T4 q_ce q_bo q_ta q_gr q_ap q_de q_cr q_si F38
theorem walk {l : PySem.W.OpenLaw} {q : Program} {loose : List Str} {XP : (Str → Option Value) → Heap → Prop} {YP : World → Heap → Prop} {d : DefRec} {K : Params → PySem.W.Frag} (hn : l.most = some 63) (hdf : d.params.defaults = [])
    (hY : ∀ (w : World) (h : Heap), YP w h → (K w.params).In h)
    (F : ∀ (w : World) (mg : Str → Option Value) (fa : Addr) (h : Heap), (K w.params).In h → h.Ns mainGlobals mg → mg d.name = some (.ref fa) →
      ∃ fd : FuncData, (∀ (s : Shared) (u : Value), BindsTo s fd ⟨[u], []⟩ [("script", u)]) ∧ ∀ base : Heap, (K w.params).In base → base.Ns mainGlobals mg → FnOk l.prog w (K w.params) mg base CX0 8 fa fd ["script"] (spLaw (K w.params))) :
    PySem.W.WalkO q loose XP YP l.row.toRowW d [] (fun f vs => PySem.call f vs) :=
  L2.walk_of (n := 63) (k := 8) (x := "script") (CX := fun _ => CX0) (sp := fun w => spLaw (K w.params)) hn (by decide) hdf ⟨rfl, by decide, by decide⟩ hY F (fun _ _ a ns hl _ hS => ⟨a, ns, rfl, hS, hl, fun _ => rfl⟩) fun _ _ _ _ _ z => z
end K97

-- part K98o
open PySem PySem.W PyProof.Rows in
set_option maxRecDepth 100000 in
set_option maxHeartbeats 0 in
theorem PySem.Challenge.cw_clockshifts_k97_whole_fair_turns_and_dea_holds : PySem.Challenge.rw_clockshifts_k97_whole_fair_turns_and_dea.Holds := by
  w_on; o_law; k_head; (case hw => w_witness2)
  k_fill
  refine K97.walk (l := PySem.Challenge.rw_clockshifts_k97_whole_fair_turns_and_dea) rfl rfl (fun w h Y => PySem.W.kIn_of Y) ?F
  case F =>
    intro w mg fa h KX G hmg
    refine' K97.all_mk KX G hmg ?a1 ?l1 ?c1 ?k1 ?a2 ?l2 ?c2 ?k2 ?a3 ?l3 ?c3 ?k3 ?a4 ?l4 ?c4 ?k4 ?a5 ?l5 ?c5 ?k5 ?a6 ?l6 ?c6 ?k6 ?a7 ?l7 ?c7 ?k7 ?a8 ?l8 ?c8 ?k8 ?a9 ?l9 ?c9 ?k9 ?a10 ?l10 ?c10 ?k10 ?a11 ?l11 ?c11 ?k11 ?a12 ?l12 ?c12 ?k12 ?a13 ?l13 ?c13 ?k13 ?a14 ?l14 ?c14 ?k14 ?a15 ?l15 ?c15 ?k15 ?a16 ?l16 ?c16 ?k16 ?a17 ?l17 ?c17 ?k17 ?a18 ?l18 ?c18 ?k18 ?a19 ?l19 ?c19 ?k19 ?a20 ?l20 ?c20 ?k20 ?a21 ?l21 ?c21 ?k21 ?a22 ?l22 ?c22 ?k22 ?a23 ?l23 ?c23 ?k23 ?a24 ?l24 ?c24 ?k24 ?a25 ?l25 ?c25 ?k25 ?a26 ?l26 ?c26 ?k26 ?a27 ?l27 ?c27 ?k27 ?a28 ?l28 ?c28 ?k28 ?a29 ?l29 ?c29 ?k29 ?a30 ?l30 ?c30 ?k30 ?a31 ?l31 ?c31 ?k31 ?a32 ?l32 ?c32 ?k32 ?a33 ?l33 ?c33 ?k33 ?a34 ?l34 ?c34 ?k34 ?a35 ?l35 ?c35 ?k35 ?a36 ?l36 ?c36 ?k36 ?a37 ?l37 ?c37 ?k37 ?a38 ?l38 ?c38 ?k38 ?aC ?a39 ?i39 ?l39 ?c39 ?k39 ?a40 ?i40 ?l40 ?c40 ?k40 ?a41 ?i41 ?l41 ?c41 ?k41 ?a42 ?i42 ?l42 ?c42 ?k42 ?pg ?hd ?po ?sa ?mk ?kc ?nS ?nT ?v0 ?v1 ?v2 ?v3 ?z0 ?z1 ?z2 ?z3 ?z4 ?z5 ?z6 ?z7 ?z8 ?z9 ?z10 ?z11 ?z12 ?z13 ?z14 ?z15 ?z16
    (case a1 => k_is)
    (case l1 => k_is)
    (case c1 => k_is)
    (case k1 => k_is)
    (case a2 => k_is)
    (case l2 => k_is)
    (case c2 => k_is)
    (case k2 => k_is)
    (case a3 => k_is)
    (case l3 => k_is)
    (case c3 => k_is)
    (case k3 => k_is)
    (case a4 => k_is)
    (case l4 => k_is)
    (case c4 => k_is)
    (case k4 => k_is)
    (case a5 => k_is)
    (case l5 => k_is)
    (case c5 => k_is)
    (case k5 => k_is)
    (case a6 => k_is)
    (case l6 => k_is)
    (case c6 => k_is)
    (case k6 => k_is)
    (case a7 => k_is)
    (case l7 => k_is)
    (case c7 => k_is)
    (case k7 => k_is)
    (case a8 => k_is)
    (case l8 => k_is)
    (case c8 => k_is)
    (case k8 => k_is)
    (case a9 => k_is)
    (case l9 => k_is)
    (case c9 => k_is)
    (case k9 => k_is)
    (case a10 => k_is)
    (case l10 => k_is)
    (case c10 => k_is)
    (case k10 => k_is)
    (case a11 => k_is)
    (case l11 => k_is)
    (case c11 => k_is)
    (case k11 => k_is)
    (case a12 => k_is)
    (case l12 => k_is)
    (case c12 => k_is)
    (case k12 => k_is)
    (case a13 => k_is)
    (case l13 => k_is)
    (case c13 => k_is)
    (case k13 => k_is)
    (case a14 => k_is)
    (case l14 => k_is)
    (case c14 => k_is)
    (case k14 => k_is)
    (case a15 => k_is)
    (case l15 => k_is)
    (case c15 => k_is)
    (case k15 => k_is)
    (case a16 => k_is)
    (case l16 => k_is)
    (case c16 => k_is)
    (case k16 => k_is)
    (case a17 => k_is)
    (case l17 => k_is)
    (case c17 => k_is)
    (case k17 => k_is)
    (case a18 => k_is)
    (case l18 => k_is)
    (case c18 => k_is)
    (case k18 => k_is)
    (case a19 => k_is)
    (case l19 => k_is)
    (case c19 => k_is)
    (case k19 => k_is)
    (case a20 => k_is)
    (case l20 => k_is)
    (case c20 => k_is)
    (case k20 => k_is)
    (case a21 => k_is)
    (case l21 => k_is)
    (case c21 => k_is)
    (case k21 => k_is)
    (case a22 => k_is)
    (case l22 => k_is)
    (case c22 => k_is)
    (case k22 => k_is)
    (case a23 => k_is)
    (case l23 => k_is)
    (case c23 => k_is)
    (case k23 => k_is)
    (case a24 => k_is)
    (case l24 => k_is)
    (case c24 => k_is)
    (case k24 => k_is)
    (case a25 => k_is)
    (case l25 => k_is)
    (case c25 => k_is)
    (case k25 => k_is)
    (case a26 => k_is)
    (case l26 => k_is)
    (case c26 => k_is)
    (case k26 => k_is)
    (case a27 => k_is)
    (case l27 => k_is)
    (case c27 => k_is)
    (case k27 => k_is)
    (case a28 => k_is)
    (case l28 => k_is)
    (case c28 => k_is)
    (case k28 => k_is)
    (case a29 => k_is)
    (case l29 => k_is)
    (case c29 => k_is)
    (case k29 => k_is)
    (case a30 => k_is)
    (case l30 => k_is)
    (case c30 => k_is)
    (case k30 => k_is)
    (case a31 => k_is)
    (case l31 => k_is)
    (case c31 => k_is)
    (case k31 => k_is)
    (case a32 => k_is)
    (case l32 => k_is)
    (case c32 => k_is)
    (case k32 => k_is)
    (case a33 => k_is)
    (case l33 => k_is)
    (case c33 => k_is)
    (case k33 => k_is)
    (case a34 => k_is)
    (case l34 => k_is)
    (case c34 => k_is)
    (case k34 => k_is)
    (case a35 => k_is)
    (case l35 => k_is)
    (case c35 => k_is)
    (case k35 => k_is)
    (case a36 => k_is)
    (case l36 => k_is)
    (case c36 => k_is)
    (case k36 => k_is)
    (case a37 => k_is)
    (case l37 => k_is)
    (case c37 => k_is)
    (case k37 => k_is)
    (case a38 => k_is)
    (case l38 => k_is)
    (case c38 => k_is)
    (case k38 => k_is)
    (case aC => k_is)
    (case a39 => k_is)
    (case i39 => k_is)
    (case l39 => k_is)
    (case c39 => k_is)
    (case k39 => k_is)
    (case a40 => k_is)
    (case i40 => k_is)
    (case l40 => k_is)
    (case c40 => k_is)
    (case k40 => k_is)
    (case a41 => k_is)
    (case i41 => k_is)
    (case l41 => k_is)
    (case c41 => k_is)
    (case k41 => k_is)
    (case a42 => k_is)
    (case i42 => k_is)
    (case l42 => k_is)
    (case c42 => k_is)
    (case k42 => k_is)
    (case pg => k_is)
    (case hd => k_is)
    (case po => k_is)
    (case sa => k_is)
    (case mk => k_is)
    (case kc => k_is)
    (case nS => k_is)
    (case nT => k_is)
    (case v0 => k_is)
    (case v1 => k_is)
    (case v2 => k_is)
    (case v3 => k_is)
    (case z0 => k_is)
    (case z1 => k_is)
    (case z2 => k_is)
    (case z3 => k_is)
    (case z4 => k_is)
    (case z5 => k_is)
    (case z6 => k_is)
    (case z7 => k_is)
    (case z8 => k_is)
    (case z9 => k_is)
    (case z10 => k_is)
    (case z11 => k_is)
    (case z12 => k_is)
    (case z13 => k_is)
    (case z14 => k_is)
    (case z15 => k_is)
    (case z16 => k_is)
