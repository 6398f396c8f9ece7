import PyProof.Rows.All
import Wide.All
import OpenK.AllK
import Wide.FinOn
import HandS.ForMost
import HandS.Exc
import HandS.Lambda
import HandS.Nested
import HandS.EndTab
import HandS.TupAny
import HandS.TupMul
import HandS.Deep
import HandS.Flow
import HandS.IsInst
import KE.DataCmp
import KE.DataFind
import KE.DataMinMax
import HandS.Conv
import HandS.Codes
import PyProof.StrBlock2
import KE.SortData
import KE.SortKeyHeap
import PyProof.ReprRoads
import HandS.WideBits
import HandS.Style
import HandS.RevTup
import HandS.Iter
import HandS.Zip
import HandS.ReCall
import KE.GoesMore
import PyProof.EnumMake
import HandS.DictComp
import HandS.Defaults
import HandS.Text
import KE.LtData
import PySem.Challenge.RW_bearstacks_k31_whole_crates_that_stand_i
import KE.KxText
import PyProof.Rows.RegFStrParts
set_option Elab.async false
set_option linter.all false
set_option maxRecDepth 100000
set_option maxHeartbeats 2000000
namespace L2
open PySem PySem.Spec PyProof.Rows LamX NdefX
section
variable {K : PySem.W.Frag} {G G' H H' : Hp}
theorem Same.seqT {a : Addr} {xs : List V} (e : Same G G') (h : SqT K G a xs) : SqT K G' a xs := by
  rcases h with (h | ⟨o, h⟩) | h
  · exact .inl (.inl (e _ _ h))
  · exact .inl (.inr ⟨o, e _ _ h⟩)
  · exact .inr h
/-- a list that may be read: tracked, or of the written part -/
def RdK (K : PySem.W.Frag) (H : Hp) (a : Addr) (xs : List V) : Prop :=
  Rd H a (.lst xs) ∨ ∃ (its : Array Value) (n : Nat), K.lookup a = some { cls := .type "list", data := .seq its n } ∧ its.size ≤ sizeLine ∧ Vals xs its.toList
theorem RdK.sql {a : Addr} {xs : List V} (h : RdK K H a xs) : SqL K H a xs := by
  rcases h with h | ⟨its, n, h1, h2, h3⟩
  · exact .inl h
  · exact .inr ⟨_, its, n, h1, rfl, rfl, rfl, h2, h3⟩
mutual
/-- data that stands: none, bools, ints, texts, lists, tuples -/
inductive DQ (K : PySem.W.Frag) (H : Hp) : V → PyData → Prop
  | non : DQ K H .non .none
  | bl (b : Bool) : DQ K H (.bl b) (.bool b)
  | int (i : Int) : DQ K H (.int i) (.int i)
  | str (x : Str) : DQ K H (.str x) (.str x)
  | lst {a : Addr} {xs : List V} {ds : List PyData} : RdK K H a xs → DQA K H xs ds → DQ K H (.ref a) (.list ds)
  | tup {a : Addr} {xs : List V} {ds : List PyData} : SqT K H a xs → DQA K H xs ds → DQ K H (.ref a) (.tuple ds)
inductive DQA (K : PySem.W.Frag) (H : Hp) : List V → List PyData → Prop
  | nil : DQA K H [] []
  | cons {v : V} {vs : List V} {d : PyData} {ds : List PyData} : DQ K H v d → DQA K H vs ds → DQA K H (v :: vs) (d :: ds)
end
theorem Same.rd {a : Addr} {u : HO} (e : Same G G') (h : Rd G a u) : Rd G' a u := by
  rcases h with h | ⟨o, h⟩
  · exact .inl (e _ _ h)
  · exact .inr ⟨o, e _ _ h⟩
theorem Same.rdk {a : Addr} {xs : List V} (e : Same G G') (h : RdK K G a xs) : RdK K G' a xs := by
  rcases h with (h | ⟨o, h⟩) | h
  · exact .inl (.inl (e _ _ h))
  · exact .inl (.inr ⟨o, e _ _ h⟩)
  · exact .inr h
mutual
theorem DQ.dp : ∀ (d : PyData) (v : V), DQ K G v d → L2.Dp K G v d
  | .none, _, h => by cases h; exact .non
  | .bool b, _, h => by cases h; exact .bl b
  | .int i, _, h => by cases h; exact .int i
  | .str x, _, h => by cases h; exact .str x
  | .list ds, _, h => by
    cases h with
    | lst hs ha => exact .lst hs.sql (DQA.dp ds _ ha)
  | .tuple ds, _, h => by
    cases h with
    | tup hs ha => exact .tup hs (DQA.dp ds _ ha)
  | .dict _, _, h => by cases h
theorem DQA.dp : ∀ (ds : List PyData) (vs : List V), DQA K G vs ds → L2.DpAll K G vs ds
  | [], _, h => by cases h; exact .nil
  | d :: ds, _, h => by
    cases h with
    | cons h1 h2 => exact .cons (DQ.dp d _ h1) (DQA.dp ds _ h2)
end
mutual
theorem DQ.mono (e : Same G G') : ∀ (d : PyData) (v : V), DQ K G v d → DQ K G' v d
  | .none, _, h => by cases h; exact .non
  | .bool b, _, h => by cases h; exact .bl b
  | .int i, _, h => by cases h; exact .int i
  | .str x, _, h => by cases h; exact .str x
  | .list ds, _, h => by
    cases h with
    | lst hs ha => exact .lst (e.rdk hs) (DQA.mono e ds _ ha)
  | .tuple ds, _, h => by
    cases h with
    | tup hs ha => exact .tup (Same.seqT e hs) (DQA.mono e ds _ ha)
  | .dict _, _, h => by cases h
theorem DQA.mono (e : Same G G') : ∀ (ds : List PyData) (vs : List V), DQA K G vs ds → DQA K G' vs ds
  | [], _, h => by cases h; exact .nil
  | d :: ds, _, h => by
    cases h with
    | cons h1 h2 => exact .cons (DQ.mono e d _ h1) (DQA.mono e ds _ h2)
end
theorem DQ.up (e : Same G G') {d : PyData} {v : V} (h : DQ K G v d) : DQ K G' v d := DQ.mono e d v h
theorem DQA.up (e : Same G G') {ds : List PyData} {vs : List V} (h : DQA K G vs ds) : DQA K G' vs ds := DQA.mono e ds vs h
theorem DQA.len : ∀ {vs : List V} {ds : List PyData}, DQA K G vs ds → vs.length = ds.length
  | [], [], _ => rfl
  | _ :: _, _ :: _, .cons _ h => congrArg Nat.succ (DQA.len h)
theorem DQA.at : ∀ {vs : List V} {ds : List PyData} {i : Nat} {v : V}, DQA K G vs ds → vs[i]? = some v → ∃ d, ds[i]? = some d ∧ DQ K G v d
  | [], _, _, _, _, h => by simp at h
  | _ :: _, _ :: _, 0, _, .cons h _, e => by simp at e; subst e; exact ⟨_, rfl, h⟩
  | _ :: _, _ :: _, i + 1, _, .cons _ h, e => by simpa using DQA.at (i := i) h (by simpa using e)
theorem DQA.at' : ∀ {vs : List V} {ds : List PyData} {i : Nat} {d : PyData}, DQA K G vs ds → ds[i]? = some d → ∃ v, vs[i]? = some v ∧ DQ K G v d
  | [], [], _, _, _, h => by simp at h
  | _ :: _, _ :: _, 0, _, .cons h _, e => by simp at e; subst e; exact ⟨_, rfl, h⟩
  | _ :: _, _ :: _, i + 1, _, .cons _ h, e => by simpa using DQA.at' (i := i) h (by simpa using e)
theorem DQA.app : ∀ {vs ws : List V} {ds es : List PyData}, DQA K G vs ds → DQA K G ws es → DQA K G (vs ++ ws) (ds ++ es)
  | [], _, [], _, _, h => h
  | _ :: _, _, _ :: _, _, .cons a b, h => .cons a (DQA.app b h)
theorem DQA.snoc {vs : List V} {ds : List PyData} {v : V} {d : PyData} (h : DQA K G vs ds) (a : DQ K G v d) : DQA K G (vs ++ [v]) (ds ++ [d]) := h.app (.cons a .nil)
theorem DQA.take : ∀ {vs : List V} {ds : List PyData} (n : Nat), DQA K G vs ds → DQA K G (vs.take n) (ds.take n)
  | _, _, 0, _ => by simp only [List.take_zero]; exact .nil
  | [], [], _ + 1, _ => by simp only [List.take_nil]; exact .nil
  | _ :: _, _ :: _, n + 1, .cons a b => by simp only [List.take_succ_cons]; exact .cons a (DQA.take n b)
theorem DQA.drop : ∀ {vs : List V} {ds : List PyData} (n : Nat), DQA K G vs ds → DQA K G (vs.drop n) (ds.drop n)
  | _, _, 0, h => by simpa using h
  | [], [], _ + 1, _ => by simp only [List.drop_nil]; exact .nil
  | _ :: _, _ :: _, n + 1, .cons a b => by simp only [List.drop_succ_cons]; exact DQA.drop n b
theorem DQA.rev : ∀ {vs : List V} {ds : List PyData}, DQA K G vs ds → DQA K G vs.reverse ds.reverse
  | [], [], h => h
  | _ :: _, _ :: _, .cons a b => by simp only [List.reverse_cons]; exact DQA.snoc (DQA.rev b) a
theorem DQA.set : ∀ {vs : List V} {ds : List PyData} {v : V} {d : PyData} (n : Nat), DQA K G vs ds → DQ K G v d → DQA K G (vs.set n v) (ds.set n d)
  | [], [], _, _, _, h, _ => by simpa using h
  | _ :: _, _ :: _, _, _, 0, .cons _ b, h => .cons h b
  | _ :: _, _ :: _, _, _, n + 1, .cons a b, h => .cons a (DQA.set n b h)
theorem DQA.erase : ∀ {vs : List V} {ds : List PyData} (n : Nat), DQA K G vs ds → DQA K G (vs.eraseIdx n) (ds.eraseIdx n)
  | [], [], _, h => by simpa using h
  | _ :: _, _ :: _, 0, .cons _ b => by simpa using b
  | _ :: _, _ :: _, n + 1, .cons a b => by simp only [List.eraseIdx_cons_succ]; exact .cons a (DQA.erase n b)

theorem Same.upd_new {G : Hp} {p : Addr} {o : HO} (h : G p = none) : Same G (upd G p o) := fun b u e => by rw [upd_ne (ne_of_none e h)]; exact e
theorem Same.upd_same {G H : Hp} {p : Addr} {o : HO} (s : Same G H) (h : H p = some o) : Same (upd G p o) H := fun b u e => by
  by_cases q : b = p
  · subst q; rw [L2.upd_same] at e; cases e; exact h
  · rw [upd_ne q] at e; exact s _ _ e
theorem Same.upd_both {G H : Hp} {p : Addr} {o : HO} (s : Same G H) : Same (upd G p o) (upd H p o) := fun b u e => by
  by_cases q : b = p
  · subst q; rw [L2.upd_same] at e; cases e; exact L2.upd_same
  · rw [upd_ne q] at e; rw [upd_ne q]; exact s _ _ e
end
end L2
namespace NdefX
open PySem PySem.Spec PyProof.Rows L2 LamX
section
variable {H H' : Hp}
theorem TabsN.new {T : List NTab} {p : Addr} {o : HO} (t : TabsN T H) (h : H p = none) : TabsN T (upd H p o) := t.ext fun b u e => by rw [upd_ne (ne_of_none e h)]; exact e
theorem TabN.keep {P : Addr} {nm : Nat → Nat → Str} (t : TabN H P nm) (e : ∀ b o, H b = some o → (∃ ps, o = .tbl ps) ∨ (∃ c q, o = CodeO c q) → H' b = some o) : TabN H' P nm := by
  obtain ⟨ps, h1, h2, h3⟩ := t
  refine ⟨ps, e _ _ h1 (.inl ⟨_, rfl⟩), h2, fun pos cv hc => ?_⟩
  obtain ⟨c, e1, e2⟩ := h3 pos cv hc
  exact ⟨c, e1, e _ _ e2 (.inr ⟨_, _, rfl⟩)⟩

end
end NdefX
namespace MP
open PySem PySem.Spec PyProof.Rows L2 LamX NdefX

abbrev D := PyData

/-- an exception: its class by the global name, its own fields -/
structure Ex where
  c : Str
  fs : List (Str × D)
/-- what a closure's call gives -/
inductive Rc where
  | ok (d : D) | exc (e : Ex) | bad
/-- what a name holds: nothing; data; a list of its own; a dict; a closure handed in; a def of the frame's own -/
inductive Sl where
  | un | fz (d : D) | ow (l : List D) | di (l : List (Key × D)) | cl (f : List D → Rc) | nd (n : Nat)
abbrev Dl := List Sl
/-- what an expression gives: data; a new list; what slot i holds; a dict; a closure; an own def -/
inductive Rv where
  | fz (d : D) | ow (l : List D) | sl (i : Nat) | di (l : List (Key × D)) | cl (f : List D → Rc) | nd (n : Nat)
inductive Res (α : Type) where
  | ok (a : α) (δ : Dl) | exc (e : Ex) (δ : Dl) | bad
inductive Fl where
  | nx | rt (r : Rv) | bk | ct
abbrev EM := Dl → Res Rv
abbrev SM := Dl → Res Fl
def Res.bind {α β : Type} (r : Res α) (k : α → Dl → Res β) : Res β :=
  match r with
  | .ok a δ => k a δ
  | .exc e δ => .exc e δ
  | .bad => .bad

/-- an own def of the frame: what stands at its function and code object, its code's name, the slots that it captures, what its call gives by these and the arguments -/
structure NDef where
  ob : Addr → Addr → HO
  q : Str
  js : List Nat
  B : List Sl → List D → Rc
/-- what is fixed through a frame -/
structure Fr where
  T : List NTab
  nds : List NDef
  np : Nat
  po : Addr → Prop
  Clo : Addr → Hp → (List D → Rc) → Prop

/-! ### dicts -/
def DiRep (K : PySem.W.Frag) (G : Hp) : List (Key × V) → List (Key × D) → Prop
  | [], [] => True
  | (k, v) :: r, (c, d) :: q => c = k ∧ DQ K G v d ∧ DiRep K G r q
  | _, _ => False

def SlOk (F : Fr) (K : PySem.W.Frag) (G H : Hp) (o : Option V) : Sl → Prop
  | .un => True
  | .fz d => ∃ v, o = some v ∧ DQ K G v d
  | .ow l => ∃ a vs, o = some (.ref a) ∧ H a = some (.lst vs) ∧ G a = none ∧ DQA K G vs l
  | .di l => ∃ a kvs, o = some (.ref a) ∧ G a = some (.dK kvs) ∧ (kvs.map (·.1)).Nodup ∧ DiRep K G kvs l
  | .cl f => ∃ a Gc, o = some (.ref a) ∧ F.Clo a Gc f ∧ Same Gc G
  | .nd n => ∃ d f c', F.nds[n]? = some d ∧ o = some (.ref f) ∧ G f = some (d.ob f c') ∧ G c' = some (CodeO c' d.q)

def Own (σ : L2.St) (δ : Dl) (a : Addr) : Prop := ∃ i l, slotAt σ i = some (.ref a) ∧ δ[i]? = some (.ow l)

/-- the frozen part and the whole -/
structure StOk (T : List NTab) (G H : Hp) : Prop where
  sub : Same G H
  tabs : TabsN T H
  notb : ∀ b ps, G b ≠ some (.tbl ps)

structure EOk (F : Fr) (K : PySem.W.Frag) (G H : Hp) (σ : L2.St) (δ : Dl) : Prop where
  st : StOk F.T G H
  len : σ.length = δ.length
  sl : ∀ i s, δ[i]? = some s → SlOk F K G H (slotAt σ i) s
  dis : ∀ i j a l l', i ≠ j → slotAt σ i = some (.ref a) → δ[i]? = some (.ow l) → slotAt σ j = some (.ref a) → δ[j]? = some (.ow l') → False
  po : ∀ i a l, slotAt σ i = some (.ref a) → δ[i]? = some (.ow l) → (i < F.np ↔ F.po a)
  pot : ∀ a, F.po a → H a ≠ none

def NoTbl (o : HO) : Prop := ∀ ps, o ≠ .tbl ps
def NoLst (o : HO) : Prop := ∀ vs, o ≠ .lst vs
structure Eff (O : Addr → Prop) (H H' : Hp) : Prop where
  keep : ∀ b o, H b = some o → ¬ O b → NoTbl o → H' b = some o
  dom : ∀ b, H' b = none → H b = none

/-- from one state to a later one -/
structure Step (F : Fr) (K : PySem.W.Frag) (G H : Hp) (σ : L2.St) (δ : Dl) (G' H' : Hp) (σ' : L2.St) (δ' : Dl) : Prop where
  g : Same G G'
  e : EOk F K G' H' σ' δ'
  eff : Eff (Own σ δ) H H'
  gn : ∀ b o, G' b = some o → G b = some o ∨ H b = none ∨ Own σ δ b ∨ NoLst o
  new : ∀ b, Own σ' δ' b → Own σ δ b ∨ H b = none

def RvOk (F : Fr) (K : PySem.W.Frag) (G H : Hp) (σ : L2.St) (δ : Dl) (x : V) : Rv → Prop
  | .fz d => DQ K G x d
  | .ow l => ∃ p vs, x = .ref p ∧ H p = some (.lst vs) ∧ G p = none ∧ DQA K G vs l ∧ ¬ Own σ δ p ∧ ¬ F.po p
  | .sl i => slotAt σ i = some x ∧ i < δ.length
  | .di l => ∃ a kvs, x = .ref a ∧ G a = some (.dK kvs) ∧ (kvs.map (·.1)).Nodup ∧ DiRep K G kvs l
  | .cl f => ∃ a Gc, x = .ref a ∧ F.Clo a Gc f ∧ Same Gc G
  | .nd n => ∃ d f c', F.nds[n]? = some d ∧ x = .ref f ∧ G f = some (d.ob f c') ∧ G c' = some (CodeO c' d.q)
/-- an own new list is new, or was a slot's -/
def RvNew (σ : L2.St) (δ : Dl) (H : Hp) (x : V) : Rv → Prop
  | .ow _ => ∀ p, x = .ref p → H p = none ∨ Own σ δ p
  | _ => True

/-- an exception as it lies -/
def RepX (K : PySem.W.Frag) (mg : Str → Option Value) (G : Hp) (cls : Value) (d : Option Addr) (e : Ex) : Prop :=
  ∃ C, cls = .ref C ∧ mg e.c = some (.ref C) ∧
    ((e.fs = [] ∧ d = none) ∨ ∃ n dv dd v, e.fs = [(n, dv)] ∧ d = some dd ∧ G dd = some (.xd [(n, v)]) ∧ DQ K G v dv)

def Post (F : Fr) (K : PySem.W.Frag) (mg : Str → Option Value) (W : WX) (G H : Hp) (σ : L2.St) (δ : Dl) (Q : VK) : Res Rv → Prop
  | .ok r δ' => ∀ x H' G', Step F K G H σ δ G' H' σ δ' → RvOk F K G' H' σ δ' x r → RvNew σ δ H x r → Q x H'
  | .exc e δ' => ∀ cls d H' G', Step F K G H σ δ G' H' σ δ' → RepX K mg G' cls d e → W cls d σ H'
  | .bad => False
def TI (F : Fr) (K : PySem.W.Frag) (mg : Str → Option Value) (W : WX) (m : EM) : TE := fun σ H Q => ∃ G δ, EOk F K G H σ δ ∧ Post F K mg W G H σ δ Q (m δ)

def FlOk (F : Fr) (K : PySem.W.Frag) (Hb : Hp) (σb : L2.St) (δb : Dl) (G' H' : Hp) (σ' : L2.St) (δ' : Dl) (D : Ends) : Fl → Prop
  | .nx => D.nx σ' H'
  | .bk => D.bk σ' H'
  | .ct => D.ct σ' H'
  | .rt r => ∀ x, RvOk F K G' H' σ' δ' x r → RvNew σb δb Hb x r → D.rt x H'
def PostS (F : Fr) (K : PySem.W.Frag) (mg : Str → Option Value) (W : WX) (G H : Hp) (σ : L2.St) (δ : Dl) (D : Ends) : Res Fl → Prop
  | .ok f δ' => ∀ σ' H' G', Step F K G H σ δ G' H' σ' δ' → FlOk F K H σ δ G' H' σ' δ' D f
  | .exc e δ' => ∀ cls d σ' H' G', Step F K G H σ δ G' H' σ' δ' → RepX K mg G' cls d e → W cls d σ' H'
  | .bad => False
def SI (F : Fr) (K : PySem.W.Frag) (mg : Str → Option Value) (W : WX) (m : SM) : TS := fun D σ H => ∃ G δ, EOk F K G H σ δ ∧ PostS F K mg W G H σ δ D (m δ)

structure DE (F : Fr) (W : WX) (X : Cx) (e : Expr) (m : EM) : Prop where
  pe : PE X e (TI F X.K X.mg W m)
structure DS (F : Fr) (W : WX) (X : Cx) (st : Stmt) (m : SM) : Prop where
  ps : PS X st (SI F X.K X.mg W m)
structure DSs (F : Fr) (W : WX) (X : Cx) (st : List Stmt) (m : SM) : Prop where
  ps : PSs X st (SI F X.K X.mg W m)

/-! ### readings may be weakened -/
theorem PE.cons {X : Cx} {e : Expr} {t t' : TE} (h : PE X e t) (i : ∀ σ H Q, t' σ H Q → t σ H Q) : PE X e t' := ⟨fun pins s σ H Q I q => h.run pins s σ H Q I (i _ _ _ q)⟩
theorem PS.cons {X : Cx} {e : Stmt} {t t' : TS} (h : PS X e t) (i : ∀ D σ H, t' D σ H → t D σ H) : PS X e t' := ⟨fun pins s σ H D I q => h.run pins s σ H D I (i _ _ _ q)⟩
theorem PSs.cons {X : Cx} {e : List Stmt} {t t' : TS} (h : PSs X e t) (i : ∀ D σ H, t' D σ H → t D σ H) : PSs X e t' := ⟨fun pins s σ H D I q => h.run pins s σ H D I (i _ _ _ q)⟩

/-! ### growth -/
section
variable {F : Fr} {K : PySem.W.Frag} {G G' H H' : Hp} {σ σ' : L2.St} {δ δ' : Dl}
theorem DiRep.up (e : Same G G') : ∀ {kvs : List (Key × V)} {l : List (Key × D)}, DiRep K G kvs l → DiRep K G' kvs l
  | [], [], h => h
  | [], _ :: _, h => h
  | _ :: _, [], h => h
  | (k, v) :: r, (c, d) :: q, h => ⟨h.1, DQ.up e h.2.1, DiRep.up e h.2.2⟩
theorem Own.lst (e : EOk F K G H σ δ) {a : Addr} (o : Own σ δ a) : ∃ vs l, H a = some (.lst vs) ∧ G a = none ∧ DQA K G vs l := by
  obtain ⟨i, l, h1, h2⟩ := o
  obtain ⟨a', vs, q1, q2, q3, q4⟩ := e.sl i _ h2
  rw [h1] at q1; cases q1
  exact ⟨vs, l, q2, q3, q4⟩
theorem Eff.refl {O : Addr → Prop} : Eff O H H := ⟨fun _ _ h _ _ => h, fun _ h => h⟩
theorem Eff.of {O : Addr → Prop} (e : Same H H') : Eff O H H' := ⟨fun b o h _ _ => e b o h, fun _ h => e.free h⟩
theorem Step.refl (e : EOk F K G H σ δ) : Step F K G H σ δ G H σ δ := ⟨Same.refl G, e, Eff.refl, fun _ _ h => .inl h, fun _ h => .inl h⟩
theorem Step.trans {G1 H1 G2 H2 : Hp} {σ1 σ2 : L2.St} {δ1 δ2 : Dl} (a : Step F K G H σ δ G1 H1 σ1 δ1) (b : Step F K G1 H1 σ1 δ1 G2 H2 σ2 δ2) : Step F K G H σ δ G2 H2 σ2 δ2 := by
  refine ⟨a.g.trans b.g, b.e, ⟨fun c o h n t => ?_, fun c h => a.eff.dom c (b.eff.dom c h)⟩, fun c o h => ?_, fun c h => ?_⟩
  · refine b.eff.keep c o (a.eff.keep c o h n t) (fun q => ?_) t
    rcases a.new c q with q | q
    · exact n q
    · rw [q] at h; cases h
  · rcases b.gn c o h with q | q | q | q
    · exact a.gn c o q
    · exact .inr (.inl (a.eff.dom c q))
    · rcases a.new c q with z | z
      · exact .inr (.inr (.inl z))
      · exact .inr (.inl z)
    · exact .inr (.inr (.inr q))
  · rcases b.new c h with q | q
    · exact a.new c q
    · exact .inr (a.eff.dom c q)
/-- only new objects -/
structure Grow (G H G' H' : Hp) : Prop where
  g : Same G G'
  h : Same H H'
  s : Same G' H'
  new : ∀ b o, G' b = some o → G b = some o ∨ H b = none
  nt : (∀ b ps, G b ≠ some (.tbl ps)) → ∀ b ps, G' b ≠ some (.tbl ps)
theorem Grow.refl (s : Same G H) : Grow G H G H := ⟨Same.refl _, Same.refl _, s, fun _ _ h => .inl h, fun h => h⟩
theorem Grow.both {p : Addr} {o : HO} (s : Same G H) (n : H p = none) (t : NoTbl o) : Grow G H (upd G p o) (upd H p o) := by
  have ng : G p = none := s.free n
  refine ⟨Same.upd_new ng, Same.upd_new n, Same.upd_both s, fun b u e => ?_, fun h b ps e => ?_⟩
  · by_cases q : b = p
    · subst q; exact .inr n
    · rw [upd_ne q] at e; exact .inl e
  · by_cases q : b = p
    · subst q; rw [upd_same] at e; exact t ps (Option.some.inj e)
    · rw [upd_ne q] at e; exact h b ps e
theorem Grow.own {p : Addr} {o : HO} (s : Same G H) (n : H p = none) : Grow G H G (upd H p o) :=
  ⟨Same.refl _, Same.upd_new n, s.trans (Same.upd_new n), fun _ _ e => .inl e, fun h => h⟩
theorem Grow.trans {G1 H1 G2 H2 : Hp} (a : Grow G H G1 H1) (b : Grow G1 H1 G2 H2) : Grow G H G2 H2 :=
  ⟨a.g.trans b.g, a.h.trans b.h, b.s, fun c o e => by
    rcases b.new c o e with q | q
    · exact a.new c o q
    · exact .inr (a.h.free q), fun h => b.nt (a.nt h)⟩
theorem SlOk.grow (w : Grow G H G' H') {o : Option V} : ∀ {s : Sl}, SlOk F K G H o s → SlOk F K G' H' o s
  | .un, _ => trivial
  | .fz d, ⟨v, e, h⟩ => ⟨v, e, h.up w.g⟩
  | .ow l, ⟨a, vs, e, h1, h2, h3⟩ => ⟨a, vs, e, w.h _ _ h1, by
      cases q : G' a with
      | none => rfl
      | some u =>
        exact (w.new a u q).elim (fun z => by rw [h2] at z; cases z) (fun z => by rw [h1] at z; cases z), h3.up w.g⟩
  | .di l, ⟨a, kvs, e, h1, h2, h3⟩ => ⟨a, kvs, e, w.g _ _ h1, h2, h3.up w.g⟩
  | .cl f, ⟨a, Gc, e, h0, h1⟩ => ⟨a, Gc, e, h0, h1.trans (w.g)⟩
  | .nd n, ⟨d, f, c', e0, e, h1, h2⟩ => ⟨d, f, c', e0, e, w.g _ _ h1, w.g _ _ h2⟩
theorem StOk.grow {T : List NTab} (w : Grow G H G' H') (s : StOk T G H) : StOk T G' H' := ⟨w.s, s.tabs.ext w.h, w.nt s.notb⟩
theorem EOk.grow (w : Grow G H G' H') (e : EOk F K G H σ δ) : EOk F K G' H' σ δ :=
  ⟨e.st.grow w, e.len, fun i s h => (e.sl i s h).grow w, e.dis, e.po, fun a h n => e.pot a h (w.h.free n)⟩
theorem Step.grow (w : Grow G H G' H') (e : EOk F K G H σ δ) : Step F K G H σ δ G' H' σ δ :=
  ⟨w.g, e.grow w, Eff.of w.h, fun b o h => (w.new b o h).imp id Or.inl, fun _ h => .inl h⟩
/-- a temporary list's owner through a step -/
theorem RvOk.step {x : V} {r : Rv} (h : RvOk F K G H σ δ x r) (s : Step F K G H σ δ G' H' σ δ') (hl : δ'.length = δ.length) : RvOk F K G' H' σ δ' x r := by
  cases r with
  | fz d => exact DQ.up s.g h
  | ow l =>
    obtain ⟨p, vs, e, h1, h2, h3, h4, h5⟩ := h
    refine ⟨p, vs, e, s.eff.keep _ _ h1 h4 (fun ps z => by cases z), ?_, h3.up s.g, fun z => ?_, h5⟩
    · cases q : G' p with
      | none => rfl
      | some u =>
        rcases s.gn p u q with z | z | z | z
        · rw [h2] at z; cases z
        · rw [h1] at z; cases z
        · exact absurd z h4
        · have e1 := s.e.st.sub _ _ q
          rw [s.eff.keep _ _ h1 h4 (fun ps z => by cases z)] at e1
          exact absurd (Option.some.inj e1).symm (z vs)
    · rcases s.new p z with z | z
      · exact h4 z
      · rw [h1] at z; cases z
  | sl i => exact ⟨h.1, by rw [hl]; exact h.2⟩
  | di l =>
    obtain ⟨a, kvs, e, h1, h2, h3⟩ := h
    exact ⟨a, kvs, e, s.g _ _ h1, h2, h3.up s.g⟩
  | cl f =>
    obtain ⟨a, Gc, e, h0, h1⟩ := h
    exact ⟨a, Gc, e, h0, h1.trans (s.g)⟩
  | nd n =>
    obtain ⟨d, f, c', e0, e, h1, h2⟩ := h
    exact ⟨d, f, c', e0, e, s.g _ _ h1, s.g _ _ h2⟩
theorem Step.len (s : Step F K G H σ δ G' H' σ δ') (e : EOk F K G H σ δ) : δ'.length = δ.length := by rw [← s.e.len, e.len]
theorem RvNew.step {x : V} {r : Rv} {G1 H1 : Hp} {δ1 : Dl} {σ1 : L2.St} (s : Step F K G H σ δ G1 H1 σ1 δ1) (h : RvNew σ1 δ1 H1 x r) : RvNew σ δ H x r := by
  cases r with
  | ow l =>
    intro p e
    rcases h p e with q | q
    · exact .inl (s.eff.dom p q)
    · exact (s.new p q).symm
  | _ => trivial
end

/-! ### ends, later -/
section
variable {F : Fr} {K : PySem.W.Frag} {mg : Str → Option Value} {W : WX} {G H : Hp} {σ : L2.St} {δ : Dl} {Q : VK}
theorem Post.later {G1 H1 : Hp} {δ1 : Dl} {r : Res Rv} (h : Post F K mg W G H σ δ Q r) (s : Step F K G H σ δ G1 H1 σ δ1) : Post F K mg W G1 H1 σ δ1 Q r := by
  cases r with
  | ok v δ' => exact fun x H' G' t a b => h x H' G' (s.trans t) a (RvNew.step s b)
  | exc e δ' => exact fun c d H' G' t a => h c d H' G' (s.trans t) a
  | bad => exact h
theorem Post.bind {G1 H1 : Hp} {δ1 : Dl} {k : Rv → Dl → Res Rv} {r : Res Rv} (h : Post F K mg W G H σ δ Q (r.bind k)) (s : Step F K G H σ δ G1 H1 σ δ1) :
    Post F K mg W G1 H1 σ δ1 (fun x H2 => ∃ G2 δ2 v, Step F K G1 H1 σ δ1 G2 H2 σ δ2 ∧ RvOk F K G2 H2 σ δ2 x v ∧ RvNew σ δ1 H1 x v ∧ Post F K mg W G H σ δ Q (k v δ2)) r := by
  cases r with
  | ok v δ' => exact fun x H' G' t a b => ⟨G', δ', v, t, a, b, h⟩
  | exc e δ' => exact fun c d H' G' t a => h c d H' G' (s.trans t) a
  | bad => exact h
theorem Post.mono {Q' : VK} {r : Res Rv} (h : Post F K mg W G H σ δ Q r) (i : ∀ x H', Q x H' → Q' x H') : Post F K mg W G H σ δ Q' r := by
  cases r with
  | ok v δ' => exact fun x H' G' t a b => i _ _ (h x H' G' t a b)
  | exc e δ' => exact h
  | bad => exact h
end

/-! ### what a value reads as, now -/
def Sl.get : Sl → Option D
  | .fz d => some d
  | .ow l => some (.list l)
  | _ => none
def Rv.get (δ : Dl) : Rv → Option D
  | .fz d => some d
  | .ow l => some (.list l)
  | .sl i => δ[i]?.bind Sl.get
  | _ => none
/-- frozen, or a list that stands now, of frozen things -/
def Cur (K : PySem.W.Frag) (G H : Hp) (x : V) (d : D) : Prop := DQ K G x d ∨ ∃ a vs l, x = .ref a ∧ d = .list l ∧ H a = some (.lst vs) ∧ DQA K G vs l
section
variable {F : Fr} {K : PySem.W.Frag} {G H : Hp} {σ : L2.St} {δ : Dl} {x : V} {d : D}
theorem Cur.now (s : Same G H) (h : Cur K G H x d) : DQ K H x d := by
  rcases h with h | ⟨a, vs, l, rfl, rfl, h1, h2⟩
  · exact h.up s
  · exact .lst (.inl (.inl h1)) (h2.up s)
theorem Cur.of_list {l : List D} (s : Same G H) (h : Cur K G H x (.list l)) : ∃ a vs, x = .ref a ∧ RdK K H a vs ∧ DQA K G vs l := by
  rcases h with h | ⟨a, vs, l', rfl, e, h1, h2⟩
  · cases h with
    | lst h1 h2 => exact ⟨_, _, rfl, s.rdk h1, h2⟩
  · cases e; exact ⟨a, vs, rfl, .inl (.inl h1), h2⟩
theorem Cur.of_tup {l : List D} (s : Same G H) (h : Cur K G H x (.tuple l)) : ∃ a vs, x = .ref a ∧ SqT K H a vs ∧ SqT K G a vs ∧ DQA K G vs l := by
  rcases h with h | ⟨a, vs, l', rfl, e, h1, h2⟩
  · cases h with
    | tup h1 h2 => exact ⟨_, _, rfl, Same.seqT s h1, h1, h2⟩
  · cases e
theorem Cur.of_int {i : Int} (h : Cur K G H x (.int i)) : x = .int i := by
  rcases h with h | ⟨a, vs, l', rfl, e, h1, h2⟩
  · cases h; rfl
  · cases e
theorem Cur.of_str {i : Str} (h : Cur K G H x (.str i)) : x = .str i := by
  rcases h with h | ⟨a, vs, l', rfl, e, h1, h2⟩
  · cases h; rfl
  · cases e
theorem Cur.of_bool {i : Bool} (h : Cur K G H x (.bool i)) : x = .bl i := by
  rcases h with h | ⟨a, vs, l', rfl, e, h1, h2⟩
  · cases h; rfl
  · cases e
theorem Cur.of_none (h : Cur K G H x .none) : x = .non := by
  rcases h with h | ⟨a, vs, l', rfl, e, h1, h2⟩
  · cases h; rfl
  · cases e
theorem RvOk.get {r : Rv} (e : EOk F K G H σ δ) (h : RvOk F K G H σ δ x r) (g : r.get δ = some d) : Cur K G H x d := by
  cases r with
  | fz d' => cases g; exact .inl h
  | ow l =>
    cases g
    obtain ⟨p, vs, e1, h1, h2, h3, _⟩ := h
    exact .inr ⟨p, vs, l, e1, rfl, h1, h3⟩
  | sl i =>
    have g' : δ[i]?.bind Sl.get = some d := g
    cases q : δ[i]? with
    | none => rw [q] at g'; cases g'
    | some s =>
      rw [q] at g'
      have z := e.sl i s q
      cases s with
      | fz d' =>
        cases g'
        obtain ⟨v, e1, h1⟩ := z
        rw [h.1] at e1; cases e1
        exact .inl h1
      | ow l =>
        cases g'
        obtain ⟨a, vs, e1, h1, h2, h3⟩ := z
        rw [h.1] at e1; cases e1
        exact .inr ⟨a, vs, l, rfl, rfl, h1, h3⟩
      | _ => cases g'
  | _ => cases g
end

/-! ### operations on what is read -/
inductive ORes where
  | v (d : D) | nl (l : List D) | bad
def ORes.res (o : ORes) (δ : Dl) : Res Rv :=
  match o with
  | .v d => .ok (.fz d) δ
  | .nl l => .ok (.ow l) δ
  | .bad => .bad
/-- what an operation that gives o asks of what follows -/
def OPost (K : PySem.W.Frag) (G H : Hp) (Q : VK) : ORes → Prop
  | .v d => ∀ x H' G', Grow G H G' H' → DQ K G' x d → Q x H'
  | .nl l => ∀ p vs H' G', Grow G H G' H' → H p = none → H' p = some (.lst vs) → G' p = none → DQA K G' vs l → Q (.ref p) H'
  | .bad => False
section
variable {F : Fr} {K : PySem.W.Frag} {mg : Str → Option Value} {W : WX} {G H : Hp} {σ : L2.St} {δ : Dl} {Q : VK}
theorem OPost.of {G0 H0 : Hp} {δ0 : Dl} {o : ORes} (sb : Step F K G0 H0 σ δ0 G H σ δ) (h : Post F K mg W G0 H0 σ δ0 Q (o.res δ)) : OPost K G H Q o := by
  have e := sb.e
  cases o with
  | v d => exact fun x H' G' w q => h x H' G' (sb.trans (Step.grow w e)) q trivial
  | nl l =>
    intro p vs H' G' w n h1 h2 h3
    refine h (.ref p) H' G' (sb.trans (Step.grow w e)) ⟨p, vs, rfl, h1, h2, h3, fun o => ?_, fun o => e.pot p o n⟩ fun p' z => ?_
    · obtain ⟨vs', l', z, _⟩ := Own.lst e o
      rw [n] at z; cases z
    · cases z; exact .inl (sb.eff.dom _ n)
  | bad => exact h
end
/-- a two-place operation on values -/
structure OpD (X : Cx) (fn : Value → Value → Sem Value) (f : D → D → ORes) : Prop where
  ex : ∃ r : R2, OpR X fn r ∧ ∀ (G H : Hp) (x y : V) (d e : D) (Q : VK), Same G H → Cur X.K G H x d → Cur X.K G H y e → OPost X.K G H Q (f d e) → r x y H Q
def binM (f : D → D → ORes) (ma mb : EM) : EM := fun δ => (ma δ).bind fun r1 δ1 => (mb δ1).bind fun r2 δ2 =>
  match r1.get δ2, r2.get δ2 with
  | some d1, some d2 => (f d1 d2).res δ2
  | _, _ => .bad
theorem TI.bin {F : Fr} {W : WX} {X : Cx} {ma mb : EM} {f : D → D → ORes} {r : R2} (hr : ∀ (G H : Hp) (x y : V) (d e : D) (Q : VK), Same G H → Cur X.K G H x d → Cur X.K G H y e → OPost X.K G H Q (f d e) → r x y H Q)
    (σ : L2.St) (H : Hp) (Q : VK) (h : TI F X.K X.mg W (binM f ma mb) σ H Q) : tOp r (TI F X.K X.mg W ma) (TI F X.K X.mg W mb) σ H Q := by
  obtain ⟨G, δ, e, h⟩ := h
  refine ⟨G, δ, e, Post.mono (h.bind (Step.refl e)) fun x H1 ⟨G1, δ1, v1, s1, rv1, nw1, h1⟩ => ⟨G1, δ1, s1.e, Post.mono (h1.bind s1) fun y H2 ⟨G2, δ2, v2, s2, rv2, nw2, h2⟩ => ?_⟩⟩
  split at h2
  · rename_i d1 d2 g1 g2
    exact hr G2 H2 x y d1 d2 Q s2.e.st.sub ((rv1.step s2 (s2.len s1.e)).get s2.e g1) (rv2.get s2.e g2) (OPost.of (s1.trans s2) h2)
  · exact h2.elim
theorem DE.bin {F : Fr} {W : WX} {X : Cx} {a b : Expr} {ma mb : EM} {op : Operator} {f : D → D → ORes} {pos : Pos} (ho : OpD X (binaryOp op) f) (ha : DE F W X a ma) (hb : DE F W X b mb) : DE F W X (.BinOp a op b pos) (binM f ma mb) := by
  obtain ⟨r, h1, h2⟩ := ho.ex
  exact ⟨PE.cons (pe_op h1 ha.pe hb.pe) (TI.bin h2)⟩
theorem DE.cmp {F : Fr} {W : WX} {X : Cx} {a b : Expr} {ma mb : EM} {op : CmpOp} {f : D → D → ORes} {pos : Pos} (ho : OpD X (compareOp op) f) (ha : DE F W X a ma) (hb : DE F W X b mb) (hm : behindInMarks op b = false) : DE F W X (.Compare a [op] [b] pos) (binM f ma mb) := by
  obtain ⟨r, h1, h2⟩ := ho.ex
  exact ⟨PE.cons (pe_cmpR h1 ha.pe hb.pe hm) (TI.bin h2)⟩
end MP

set_option Elab.async false
set_option linter.all false
set_option maxRecDepth 100000
set_option maxHeartbeats 2000000
namespace MP
open PySem PySem.Spec PyProof.Rows L2 LamX NdefX

/-! ### tests -/
abbrev TM := Dl → Res Bool
def PostT (F : Fr) (K : PySem.W.Frag) (mg : Str → Option Value) (W : WX) (G H : Hp) (σ : L2.St) (δ : Dl) (Q : Bool → Hp → Prop) : Res Bool → Prop
  | .ok b δ' => ∀ H' G', Step F K G H σ δ G' H' σ δ' → Q b H'
  | .exc e δ' => ∀ cls d H' G', Step F K G H σ δ G' H' σ δ' → RepX K mg G' cls d e → W cls d σ H'
  | .bad => False
def TTI (F : Fr) (K : PySem.W.Frag) (mg : Str → Option Value) (W : WX) (m : TM) : TT := fun σ H Q => ∃ G δ, EOk F K G H σ δ ∧ PostT F K mg W G H σ δ Q (m δ)
structure DT (F : Fr) (W : WX) (X : Cx) (e : Expr) (m : TM) : Prop where
  pt : PT X e (TTI F X.K X.mg W m)
structure DW (F : Fr) (W : WX) (X : Cx) (e : Expr) (m : TM) : Prop where
  pw : PW X e (TTI F X.K X.mg W m)
/-- lists of values -/
abbrev AM := Dl → Res (List Rv)
inductive RvsOk (F : Fr) (K : PySem.W.Frag) (G H : Hp) (σ : L2.St) (δ : Dl) : List V → List Rv → Prop
  | nil : RvsOk F K G H σ δ [] []
  | cons {x : V} {r : Rv} {xs : List V} {rs : List Rv} : RvOk F K G H σ δ x r → RvsOk F K G H σ δ xs rs → (∀ l y l', r = .ow l → (y, Rv.ow l') ∈ xs.zip rs → x ≠ y) → RvsOk F K G H σ δ (x :: xs) (r :: rs)
inductive RvsNew (σ : L2.St) (δ : Dl) (H : Hp) : List V → List Rv → Prop
  | nil : RvsNew σ δ H [] []
  | cons {x : V} {r : Rv} {xs : List V} {rs : List Rv} : RvNew σ δ H x r → RvsNew σ δ H xs rs → RvsNew σ δ H (x :: xs) (r :: rs)
def PostA (F : Fr) (K : PySem.W.Frag) (mg : Str → Option Value) (W : WX) (G H : Hp) (σ : L2.St) (δ : Dl) (Q : List V → Hp → Prop) : Res (List Rv) → Prop
  | .ok rs δ' => ∀ xs H' G', Step F K G H σ δ G' H' σ δ' → RvsOk F K G' H' σ δ' xs rs → RvsNew σ δ H xs rs → Q xs H'
  | .exc e δ' => ∀ cls d H' G', Step F K G H σ δ G' H' σ δ' → RepX K mg G' cls d e → W cls d σ H'
  | .bad => False
def TAI (F : Fr) (K : PySem.W.Frag) (mg : Str → Option Value) (W : WX) (m : AM) : TA := fun σ H Q => ∃ G δ, EOk F K G H σ δ ∧ PostA F K mg W G H σ δ Q (m δ)
structure DA (F : Fr) (W : WX) (X : Cx) (es : List Expr) (m : AM) : Prop where
  pa : PA X es (TAI F X.K X.mg W m)

theorem PT.cons {X : Cx} {e : Expr} {t t' : TT} (h : PT X e t) (i : ∀ σ H Q, t' σ H Q → t σ H Q) : PT X e t' := ⟨fun pins s σ H Q I q => h.run pins s σ H Q I (i _ _ _ q)⟩
theorem PW.cons {X : Cx} {e : Expr} {t t' : TT} (h : PW X e t) (i : ∀ σ H Q, t' σ H Q → t σ H Q) : PW X e t' := ⟨fun w pins s σ H Q I q => h.run w pins s σ H Q I (i _ _ _ q)⟩
theorem PA.cons {X : Cx} {e : List Expr} {t t' : TA} (h : PA X e t) (i : ∀ σ H Q, t' σ H Q → t σ H Q) : PA X e t' := ⟨fun p pins s σ H Q I q => h.run p pins s σ H Q I (i _ _ _ q)⟩

section
variable {F : Fr} {K : PySem.W.Frag} {mg : Str → Option Value} {W : WX} {G H : Hp} {σ : L2.St} {δ : Dl}
theorem RvsOk.len {xs : List V} {rs : List Rv} (h : RvsOk F K G H σ δ xs rs) : xs.length = rs.length := by
  induction h with
  | nil => rfl
  | cons _ _ _ ih => simp [ih]
theorem RvsOk.step {G' H' : Hp} {δ' : Dl} {xs : List V} {rs : List Rv} (h : RvsOk F K G H σ δ xs rs) (s : Step F K G H σ δ G' H' σ δ') (hl : δ'.length = δ.length) : RvsOk F K G' H' σ δ' xs rs := by
  induction h with
  | nil => exact .nil
  | cons a _ c ih => exact .cons (a.step s hl) ih c
theorem RvsNew.step {G1 H1 : Hp} {δ1 : Dl} {xs : List V} {rs : List Rv} (s : Step F K G H σ δ G1 H1 σ δ1) (h : RvsNew σ δ1 H1 xs rs) : RvsNew σ δ H xs rs := by
  induction h with
  | nil => exact .nil
  | cons a _ ih => exact .cons (RvNew.step s a) ih
theorem PostT.mono {Q Q' : Bool → Hp → Prop} {r : Res Bool} (h : PostT F K mg W G H σ δ Q r) (i : ∀ x H', Q x H' → Q' x H') : PostT F K mg W G H σ δ Q' r := by
  cases r with
  | ok v δ' => exact fun H' G' t => i _ _ (h H' G' t)
  | exc e δ' => exact h
  | bad => exact h
theorem PostA.mono {Q Q' : List V → Hp → Prop} {r : Res (List Rv)} (h : PostA F K mg W G H σ δ Q r) (i : ∀ x H', Q x H' → Q' x H') : PostA F K mg W G H σ δ Q' r := by
  cases r with
  | ok v δ' => exact fun x H' G' t a b => i _ _ (h x H' G' t a b)
  | exc e δ' => exact h
  | bad => exact h
variable {G1 H1 : Hp} {δ1 : Dl} {σ1 : L2.St}
theorem Post.bindT {Q : VK} {k : Bool → Dl → Res Rv} {r : Res Bool} (h : Post F K mg W G H σ δ Q (r.bind k)) (s : Step F K G H σ δ G1 H1 σ δ1) :
    PostT F K mg W G1 H1 σ δ1 (fun x H2 => ∃ G2 δ2, Step F K G1 H1 σ δ1 G2 H2 σ δ2 ∧ Post F K mg W G H σ δ Q (k x δ2)) r := by
  cases r with
  | ok v δ' => exact fun H' G' t => ⟨G', δ', t, h⟩
  | exc e δ' => exact fun c d H' G' t a => h c d H' G' (s.trans t) a
  | bad => exact h
theorem Post.bindA {Q : VK} {k : List Rv → Dl → Res Rv} {r : Res (List Rv)} (h : Post F K mg W G H σ δ Q (r.bind k)) (s : Step F K G H σ δ G1 H1 σ δ1) :
    PostA F K mg W G1 H1 σ δ1 (fun x H2 => ∃ G2 δ2 v, Step F K G1 H1 σ δ1 G2 H2 σ δ2 ∧ RvsOk F K G2 H2 σ δ2 x v ∧ RvsNew σ δ1 H1 x v ∧ Post F K mg W G H σ δ Q (k v δ2)) r := by
  cases r with
  | ok v δ' => exact fun x H' G' t a b => ⟨G', δ', v, t, a, b, h⟩
  | exc e δ' => exact fun c d H' G' t a => h c d H' G' (s.trans t) a
  | bad => exact h
theorem PostT.later {Q : Bool → Hp → Prop} {r : Res Bool} (h : PostT F K mg W G H σ δ Q r) (s : Step F K G H σ δ G1 H1 σ δ1) : PostT F K mg W G1 H1 σ δ1 Q r := by
  cases r with
  | ok v δ' => exact fun H' G' t => h H' G' (s.trans t)
  | exc e δ' => exact fun c d H' G' t a => h c d H' G' (s.trans t) a
  | bad => exact h
theorem PostA.later {Q : List V → Hp → Prop} {r : Res (List Rv)} (h : PostA F K mg W G H σ δ Q r) (s : Step F K G H σ δ G1 H1 σ δ1) : PostA F K mg W G1 H1 σ δ1 Q r := by
  cases r with
  | ok v δ' => exact fun x H' G' t a b => h x H' G' (s.trans t) a (RvsNew.step s b)
  | exc e δ' => exact fun c d H' G' t a => h c d H' G' (s.trans t) a
  | bad => exact h
theorem PostS.later {D : Ends} {r : Res Fl} (h : PostS F K mg W G H σ δ D r) (s : Step F K G H σ δ G1 H1 σ1 δ1) : PostS F K mg W G1 H1 σ1 δ1 D r := by
  cases r with
  | ok v δ' =>
    intro σ' H' G' t
    have q := h σ' H' G' (s.trans t)
    cases v with
    | rt r => exact fun x a b => q x a (RvNew.step s b)
    | _ => exact q
  | exc e δ' => exact fun c d σ' H' G' t a => h c d σ' H' G' (s.trans t) a
  | bad => exact h
theorem PostT.bindE {Q : Bool → Hp → Prop} {k : Rv → Dl → Res Bool} {r : Res Rv} (h : PostT F K mg W G H σ δ Q (r.bind k)) (s : Step F K G H σ δ G1 H1 σ δ1) :
    Post F K mg W G1 H1 σ δ1 (fun x H2 => ∃ G2 δ2 v, Step F K G1 H1 σ δ1 G2 H2 σ δ2 ∧ RvOk F K G2 H2 σ δ2 x v ∧ RvNew σ δ1 H1 x v ∧ PostT F K mg W G H σ δ Q (k v δ2)) r := by
  cases r with
  | ok v δ' => exact fun x H' G' t a b => ⟨G', δ', v, t, a, b, h⟩
  | exc e δ' => exact fun c d H' G' t a => h c d H' G' (s.trans t) a
  | bad => exact h
theorem PostT.bindT {Q : Bool → Hp → Prop} {k : Bool → Dl → Res Bool} {r : Res Bool} (h : PostT F K mg W G H σ δ Q (r.bind k)) (s : Step F K G H σ δ G1 H1 σ δ1) :
    PostT F K mg W G1 H1 σ δ1 (fun x H2 => ∃ G2 δ2, Step F K G1 H1 σ δ1 G2 H2 σ δ2 ∧ PostT F K mg W G H σ δ Q (k x δ2)) r := by
  cases r with
  | ok v δ' => exact fun H' G' t => ⟨G', δ', t, h⟩
  | exc e δ' => exact fun c d H' G' t a => h c d H' G' (s.trans t) a
  | bad => exact h
theorem PostT.bindA {Q : Bool → Hp → Prop} {k : List Rv → Dl → Res Bool} {r : Res (List Rv)} (h : PostT F K mg W G H σ δ Q (r.bind k)) (s : Step F K G H σ δ G1 H1 σ δ1) :
    PostA F K mg W G1 H1 σ δ1 (fun x H2 => ∃ G2 δ2 v, Step F K G1 H1 σ δ1 G2 H2 σ δ2 ∧ RvsOk F K G2 H2 σ δ2 x v ∧ RvsNew σ δ1 H1 x v ∧ PostT F K mg W G H σ δ Q (k v δ2)) r := by
  cases r with
  | ok v δ' => exact fun x H' G' t a b => ⟨G', δ', v, t, a, b, h⟩
  | exc e δ' => exact fun c d H' G' t a => h c d H' G' (s.trans t) a
  | bad => exact h
theorem PostA.bindE {Q : List V → Hp → Prop} {k : Rv → Dl → Res (List Rv)} {r : Res Rv} (h : PostA F K mg W G H σ δ Q (r.bind k)) (s : Step F K G H σ δ G1 H1 σ δ1) :
    Post F K mg W G1 H1 σ δ1 (fun x H2 => ∃ G2 δ2 v, Step F K G1 H1 σ δ1 G2 H2 σ δ2 ∧ RvOk F K G2 H2 σ δ2 x v ∧ RvNew σ δ1 H1 x v ∧ PostA F K mg W G H σ δ Q (k v δ2)) r := by
  cases r with
  | ok v δ' => exact fun x H' G' t a b => ⟨G', δ', v, t, a, b, h⟩
  | exc e δ' => exact fun c d H' G' t a => h c d H' G' (s.trans t) a
  | bad => exact h
theorem PostA.bindT {Q : List V → Hp → Prop} {k : Bool → Dl → Res (List Rv)} {r : Res Bool} (h : PostA F K mg W G H σ δ Q (r.bind k)) (s : Step F K G H σ δ G1 H1 σ δ1) :
    PostT F K mg W G1 H1 σ δ1 (fun x H2 => ∃ G2 δ2, Step F K G1 H1 σ δ1 G2 H2 σ δ2 ∧ PostA F K mg W G H σ δ Q (k x δ2)) r := by
  cases r with
  | ok v δ' => exact fun H' G' t => ⟨G', δ', t, h⟩
  | exc e δ' => exact fun c d H' G' t a => h c d H' G' (s.trans t) a
  | bad => exact h
theorem PostA.bindA {Q : List V → Hp → Prop} {k : List Rv → Dl → Res (List Rv)} {r : Res (List Rv)} (h : PostA F K mg W G H σ δ Q (r.bind k)) (s : Step F K G H σ δ G1 H1 σ δ1) :
    PostA F K mg W G1 H1 σ δ1 (fun x H2 => ∃ G2 δ2 v, Step F K G1 H1 σ δ1 G2 H2 σ δ2 ∧ RvsOk F K G2 H2 σ δ2 x v ∧ RvsNew σ δ1 H1 x v ∧ PostA F K mg W G H σ δ Q (k v δ2)) r := by
  cases r with
  | ok v δ' => exact fun x H' G' t a b => ⟨G', δ', v, t, a, b, h⟩
  | exc e δ' => exact fun c d H' G' t a => h c d H' G' (s.trans t) a
  | bad => exact h
theorem PostS.bindE {D : Ends} {k : Rv → Dl → Res Fl} {r : Res Rv} (h : PostS F K mg W G H σ δ D (r.bind k)) (s : Step F K G H σ δ G1 H1 σ1 δ1) :
    Post F K mg W G1 H1 σ1 δ1 (fun x H2 => ∃ G2 δ2 v, Step F K G1 H1 σ1 δ1 G2 H2 σ1 δ2 ∧ RvOk F K G2 H2 σ1 δ2 x v ∧ RvNew σ1 δ1 H1 x v ∧ PostS F K mg W G H σ δ D (k v δ2)) r := by
  cases r with
  | ok v δ' => exact fun x H' G' t a b => ⟨G', δ', v, t, a, b, h⟩
  | exc e δ' => exact fun c d H' G' t a => h c d σ1 H' G' (s.trans t) a
  | bad => exact h
theorem PostS.bindT {D : Ends} {k : Bool → Dl → Res Fl} {r : Res Bool} (h : PostS F K mg W G H σ δ D (r.bind k)) (s : Step F K G H σ δ G1 H1 σ1 δ1) :
    PostT F K mg W G1 H1 σ1 δ1 (fun x H2 => ∃ G2 δ2, Step F K G1 H1 σ1 δ1 G2 H2 σ1 δ2 ∧ PostS F K mg W G H σ δ D (k x δ2)) r := by
  cases r with
  | ok v δ' => exact fun H' G' t => ⟨G', δ', t, h⟩
  | exc e δ' => exact fun c d H' G' t a => h c d σ1 H' G' (s.trans t) a
  | bad => exact h
theorem PostS.bindA {D : Ends} {k : List Rv → Dl → Res Fl} {r : Res (List Rv)} (h : PostS F K mg W G H σ δ D (r.bind k)) (s : Step F K G H σ δ G1 H1 σ1 δ1) :
    PostA F K mg W G1 H1 σ1 δ1 (fun x H2 => ∃ G2 δ2 v, Step F K G1 H1 σ1 δ1 G2 H2 σ1 δ2 ∧ RvsOk F K G2 H2 σ1 δ2 x v ∧ RvsNew σ1 δ1 H1 x v ∧ PostS F K mg W G H σ δ D (k v δ2)) r := by
  cases r with
  | ok v δ' => exact fun x H' G' t a b => ⟨G', δ', v, t, a, b, h⟩
  | exc e δ' => exact fun c d H' G' t a => h c d σ1 H' G' (s.trans t) a
  | bad => exact h
end

/-! ### names, constants -/
section
variable {F : Fr} {W : WX} {X : Cx} {pos : Pos}
def varM (i : Nat) : EM := fun δ => match δ[i]? with
  | some (.fz d) => .ok (.fz d) δ
  | some (.ow _) => .ok (.sl i) δ
  | some (.di l) => .ok (.di l) δ
  | some (.cl f) => .ok (.cl f) δ
  | some (.nd n) => .ok (.nd n) δ
  | _ => .bad
theorem DE.var (i : Nat) {x : Str} (hN : X.N[i]? = some x := by rfl) (hv : Vis X.env.scope x := by first | exact Or.inl rfl | exact Or.inr (Or.inl rfl) | exact Or.inr (Or.inr rfl)) (hd : (x == ("__debug__" : Str)) = false := by decide)
    (hcd : (x == ("__classdict__" : Str)) = false := by decide) : DE F W X (.Name x pos) (varM i) := by
  refine ⟨PE.cons (pe_var hN hv hd hcd) ?_⟩
  rintro σ H Q ⟨G, δ, e, h⟩
  unfold varM at h
  cases q : δ[i]? with
  | none => rw [q] at h; exact h.elim
  | some s =>
    rw [q] at h
    have z := e.sl i s q
    cases s with
    | un => exact h.elim
    | fz d => obtain ⟨v, e1, h1⟩ := z; exact ⟨v, slotAt_some e1, h v H G (Step.refl e) h1 trivial⟩
    | ow l =>
      obtain ⟨a, vs, e1, h1, h2, h3⟩ := z
      exact ⟨.ref a, slotAt_some e1, h _ H G (Step.refl e) ⟨e1, (List.getElem?_eq_some_iff.mp q).1⟩ trivial⟩
    | di l => obtain ⟨a, kvs, e1, h1⟩ := z; exact ⟨.ref a, slotAt_some e1, h _ H G (Step.refl e) ⟨a, kvs, rfl, h1⟩ trivial⟩
    | cl f => obtain ⟨a, Gc, e1, h1⟩ := z; exact ⟨.ref a, slotAt_some e1, h _ H G (Step.refl e) ⟨a, Gc, rfl, h1⟩ trivial⟩
    | nd n => obtain ⟨d, f, c', e0, e1, h1⟩ := z; exact ⟨.ref f, slotAt_some e1, h _ H G (Step.refl e) ⟨d, f, c', e0, rfl, h1⟩ trivial⟩
def conM (d : D) : EM := fun δ => .ok (.fz d) δ
theorem TI.con {v : V} {d : D} (hd : ∀ G, DQ X.K G v d) : ∀ σ H Q, TI F X.K X.mg W (conM d) σ H Q → tC v σ H Q := by
  rintro σ H Q ⟨G, δ, e, h⟩
  exact h v H G (Step.refl e) (hd G) trivial
theorem DE.int {i : Int} {j : Nat} : DE F W X (.Constant (.int i) j pos) (conM (.int i)) := ⟨PE.cons pe_int (TI.con fun _ => .int i)⟩
theorem DE.bool {b : Bool} {j : Nat} : DE F W X (.Constant (.bool b) j pos) (conM (.bool b)) := ⟨PE.cons pe_bl (TI.con fun _ => .bl b)⟩
theorem DE.none {j : Nat} : DE F W X (.Constant .none j pos) (conM .none) := ⟨PE.cons pe_non (TI.con fun _ => .non)⟩
theorem DE.str {x : Str} {j : Nat} : DE F W X (.Constant (.str x) j pos) (conM (.str x)) := ⟨PE.cons pe_str (TI.con fun _ => .str x)⟩
/-- a constant of the module -/
def GlobD (K : PySem.W.Frag) (mg : Str → Option Value) (x : Str) (d : D) : Prop := ∃ u v, mg x = some u ∧ RelV v u ∧ DQ K (fun _ => Option.none) v d
theorem DE.glob {x : Str} {d : D} (g : GlobD X.K X.mg x d) (hg : Gl X x := by rfl) (hd : (x == ("__debug__" : Str)) = false := by decide) : DE F W X (.Name x pos) (conM d) := by
  obtain ⟨u, v, h1, h2, h3⟩ := g
  exact ⟨PE.cons (pe_glob hg h1 h2 hd) (TI.con fun G => h3.up fun _ _ z => by cases z)⟩

/-! ### arguments -/
def nilA : AM := fun δ => .ok [] δ
def consA (m : EM) (r : AM) : AM := fun δ => (m δ).bind fun v δ1 => (r δ1).bind fun vs δ2 => .ok (v :: vs) δ2
theorem DA.nil : DA F W X [] nilA := ⟨PA.cons pa_nil fun σ H Q ⟨G, δ, e, h⟩ => h [] H G (Step.refl e) .nil .nil⟩
theorem zip_rv {K : PySem.W.Frag} {G H : Hp} {σ : L2.St} {δ : Dl} {xs : List V} {rs : List Rv} {y : V} {r : Rv} (a : RvsOk F K G H σ δ xs rs) (h : (y, r) ∈ xs.zip rs) : RvOk F K G H σ δ y r := by
  induction a with
  | nil => simp at h
  | cons a _ _ ih =>
    rw [List.zip_cons_cons] at h
    rcases List.mem_cons.mp h with e | e
    · cases e; exact a
    · exact ih e
theorem zip_nw {H : Hp} {σ : L2.St} {δ : Dl} {xs : List V} {rs : List Rv} {y : V} {r : Rv} (a : RvsNew σ δ H xs rs) (h : (y, r) ∈ xs.zip rs) : RvNew σ δ H y r := by
  induction a with
  | nil => simp at h
  | cons a _ ih =>
    rw [List.zip_cons_cons] at h
    rcases List.mem_cons.mp h with e | e
    · cases e; exact a
    · exact ih e
theorem DA.cons {e : Expr} {es : List Expr} {m : EM} {r : AM} (ha : DE F W X e m) (hr : DA F W X es r) (hs : starEach (e :: es) X.env = (false, eval e X.env) :: starEach es X.env := by rfl) : DA F W X (e :: es) (consA m r) := by
  refine ⟨PA.cons (pa_cons ha.pe hr.pa hs) ?_⟩
  rintro σ H Q ⟨G, δ, e, h⟩
  refine ⟨G, δ, e, Post.mono (h.bindE (Step.refl e)) fun x H1 ⟨G1, δ1, v1, s1, rv1, nw1, h1⟩ => ⟨G1, δ1, s1.e, PostA.mono (h1.bindA s1) fun ys H2 ⟨G2, δ2, vs, s2, rv2, nw2, h2⟩ => ?_⟩⟩
  refine h2 (x :: ys) H2 G2 (s1.trans s2) (.cons (rv1.step s2 (s2.len s1.e)) rv2 fun l y l' e1 hm e2 => ?_) (.cons nw1 (nw2.step s1))
  subst e1 e2
  obtain ⟨p, vs', rfl, h1, h2, h3, h4, h5⟩ := rv1
  rcases zip_nw nw2 hm p rfl with z | z
  · rw [h1] at z; cases z
  · exact h4 z
end

/-! ### data out of values: what escapes is frozen -/
section
variable {F : Fr} {K : PySem.W.Frag} {G0 H0 G H : Hp} {σ0 σ : L2.St} {δ0 δ : Dl}
theorem SlOk.frz {p : Addr} {vs : List V} (hG : G p = none) {o : Option V} : ∀ {s : Sl}, SlOk F K G H o s → (∀ l a, s = .ow l → o = some (.ref a) → a ≠ p) → SlOk F K (upd G p (.lst vs)) H o s
  | .un, _, _ => trivial
  | .fz d, ⟨v, e, h⟩, _ => ⟨v, e, h.up (Same.upd_new hG)⟩
  | .ow l, ⟨a, ws, e, h1, h2, h3⟩, n => ⟨a, ws, e, h1, by rw [upd_ne (n l a rfl e)]; exact h2, h3.up (Same.upd_new hG)⟩
  | .di l, ⟨a, kvs, e, h1, h2, h3⟩, _ => ⟨a, kvs, e, Same.upd_new hG _ _ h1, h2, h3.up (Same.upd_new hG)⟩
  | .cl f, ⟨a, Gc, e, h0, h1⟩, _ => ⟨a, Gc, e, h0, h1.trans (Same.upd_new hG)⟩
  | .nd n, ⟨d, f, c', e0, e, h1, h2⟩, _ => ⟨d, f, c', e0, e, Same.upd_new hG _ _ h1, Same.upd_new hG _ _ h2⟩
theorem StOk.frz {T : List NTab} {p : Addr} {vs : List V} (s : StOk T G H) (h : H p = some (.lst vs)) : StOk T (upd G p (.lst vs)) H :=
  ⟨Same.upd_same s.sub h, s.tabs, fun b ps e => by
    by_cases q : b = p
    · subst q; rw [upd_same] at e; cases e
    · rw [upd_ne q] at e; exact s.notb b ps e⟩
theorem EOk.frzTmp {p : Addr} {vs : List V} (e : EOk F K G H σ δ) (h : H p = some (.lst vs)) (hG : G p = none) (hn : ¬ Own σ δ p) : EOk F K (upd G p (.lst vs)) H σ δ :=
  ⟨e.st.frz h, e.len, fun i s hi => (e.sl i s hi).frz hG fun l a e1 e2 e3 => hn ⟨i, l, by rw [e2, e3], by rw [hi, e1]⟩, e.dis, e.po, e.pot⟩
theorem get_set {i j : Nat} {s t : Sl} (h : (δ.set i t)[j]? = some s) : (j = i ∧ s = t) ∨ (j ≠ i ∧ δ[j]? = some s) := by
  by_cases q : j = i
  · subst q
    by_cases hl : j < δ.length
    · rw [List.getElem?_set_self hl] at h; cases h; exact .inl ⟨rfl, rfl⟩
    · rw [List.getElem?_eq_none (by simpa using hl)] at h; cases h
  · rw [List.getElem?_set_ne (Ne.symm q)] at h; exact .inr ⟨q, h⟩
theorem EOk.frzSl {i : Nat} {l : List D} {a : Addr} {vs : List V} (e : EOk F K G H σ δ) (hi : δ[i]? = some (.ow l)) (ha : slotAt σ i = some (.ref a)) (h : H a = some (.lst vs)) (hG : G a = none) (hd : DQA K G vs l) : EOk F K (upd G a (.lst vs)) H σ (δ.set i (.fz (.list l))) := by
  refine ⟨e.st.frz h, by rw [List.length_set]; exact e.len, fun j s hj => ?_, fun j k b l1 l2 hne h1 h2 h3 h4 => ?_, fun j b l1 h1 h2 => ?_, e.pot⟩
  · rcases get_set hj with ⟨rfl, rfl⟩ | ⟨hne, hj⟩
    · exact ⟨.ref a, ha, .lst (.inl (.inl upd_same)) (hd.up (Same.upd_new hG))⟩
    · refine (e.sl j s hj).frz hG fun l' b e1 e2 e3 => ?_
      subst e1 e3
      exact e.dis j i _ _ _ hne e2 hj ha hi
  · rcases get_set h2 with ⟨_, z⟩ | ⟨n2, h2⟩
    · cases z
    · rcases get_set h4 with ⟨_, z⟩ | ⟨n4, h4⟩
      · cases z
      · exact e.dis j k b l1 l2 hne h1 h2 h3 h4
  · rcases get_set h2 with ⟨_, z⟩ | ⟨_, h2⟩
    · cases z
    · exact e.po j b l1 h1 h2
theorem own_frzSl {i : Nat} {d : D} {b : Addr} (h : Own σ (δ.set i (.fz d)) b) : Own σ δ b := by
  obtain ⟨j, l, h1, h2⟩ := h
  rcases get_set h2 with ⟨_, z⟩ | ⟨_, h2⟩
  · cases z
  · exact ⟨j, l, h1, h2⟩
theorem Step.frzTmp {p : Addr} {vs : List V} (sb : Step F K G0 H0 σ0 δ0 G H σ δ) (h : H p = some (.lst vs)) (hG : G p = none) (hn : ¬ Own σ δ p) (new : H0 p = none ∨ Own σ0 δ0 p) : Step F K G0 H0 σ0 δ0 (upd G p (.lst vs)) H σ δ :=
  ⟨sb.g.trans (Same.upd_new hG), sb.e.frzTmp h hG hn, sb.eff, fun b o hb => by
    by_cases q : b = p
    · subst q; exact .inr (new.imp id Or.inl)
    · rw [upd_ne q] at hb; exact sb.gn b o hb, sb.new⟩
theorem Step.frzSl {i : Nat} {l : List D} {a : Addr} {vs : List V} (sb : Step F K G0 H0 σ0 δ0 G H σ δ) (hi : δ[i]? = some (.ow l)) (ha : slotAt σ i = some (.ref a)) (h : H a = some (.lst vs)) (hG : G a = none) (hd : DQA K G vs l) :
    Step F K G0 H0 σ0 δ0 (upd G a (.lst vs)) H σ (δ.set i (.fz (.list l))) :=
  ⟨sb.g.trans (Same.upd_new hG), sb.e.frzSl hi ha h hG hd, sb.eff, fun b o hb => by
    by_cases q : b = a
    · subst q; exact .inr ((sb.new _ ⟨i, l, ha, hi⟩).symm.imp id Or.inl)
    · rw [upd_ne q] at hb; exact sb.gn b o hb, fun b o => sb.new b (own_frzSl o)⟩
end
def esc1 (r : Rv) (δ : Dl) : Option (D × Dl) :=
  match r with
  | .fz d => some (d, δ)
  | .ow l => some (.list l, δ)
  | .sl i => match δ[i]? with
    | some (.fz d) => some (d, δ)
    | some (.ow l) => some (.list l, δ.set i (.fz (.list l)))
    | _ => none
  | _ => none
def escL : List Rv → Dl → Option (List D × Dl)
  | [], δ => some ([], δ)
  | r :: rs, δ => match esc1 r δ with
    | some (d, δ1) => match escL rs δ1 with
      | some (ds, δ2) => some (d :: ds, δ2)
      | none => none
    | none => none
section
variable {F : Fr} {K : PySem.W.Frag} {G0 H0 G H : Hp} {σ0 σ : L2.St} {δ0 δ δ' : Dl}
/-- one value: the frozen part grows at one list that was not in it -/
theorem esc1_ok {x : V} {r : Rv} {d : D} (sb : Step F K G0 H0 σ δ0 G H σ δ) (h : RvOk F K G H σ δ x r) (nw : RvNew σ δ0 H0 x r) (he : esc1 r δ = some (d, δ')) :
    ∃ G', Step F K G0 H0 σ δ0 G' H σ δ' ∧ DQ K G' x d ∧ δ'.length = δ.length ∧ Same G G' ∧ ∀ p, G p = none → (∀ l, r = .ow l → x ≠ .ref p) → ¬ Own σ δ p → G' p = none ∧ ¬ Own σ δ' p := by
  cases r with
  | fz d' => cases he; exact ⟨G, sb, h, rfl, Same.refl G, fun p a _ c => ⟨a, c⟩⟩
  | ow l =>
    cases he
    obtain ⟨p, vs, rfl, h1, h2, h3, h4, h5⟩ := h
    refine ⟨_, sb.frzTmp h1 h2 h4 (nw p rfl), .lst (.inl (.inl upd_same)) (h3.up (Same.upd_new h2)), rfl, Same.upd_new h2, fun q a b c => ⟨?_, c⟩⟩
    rw [upd_ne (fun z => b l rfl (by rw [z]))]; exact a
  | sl i =>
    obtain ⟨h1, h2⟩ := h
    unfold esc1 at he
    cases q : δ[i]? with
    | none => simp [q] at he
    | some s =>
      have z := sb.e.sl i s q
      cases s with
      | fz d' =>
        simp [q] at he
        obtain ⟨rfl, rfl⟩ := he
        obtain ⟨v, e1, h3⟩ := z
        rw [h1] at e1; cases e1
        exact ⟨G, sb, h3, rfl, Same.refl G, fun p a _ c => ⟨a, c⟩⟩
      | ow l =>
        simp [q] at he
        obtain ⟨rfl, rfl⟩ := he
        obtain ⟨a, vs, e1, h3, h4, h5⟩ := z
        rw [h1] at e1; cases e1
        refine ⟨_, sb.frzSl q h1 h3 h4 h5, .lst (.inl (.inl upd_same)) (h5.up (Same.upd_new h4)), List.length_set, Same.upd_new h4, fun p a1 _ c => ⟨?_, fun o => c (own_frzSl o)⟩⟩
        rw [upd_ne]; exact a1
        rintro rfl
        exact c ⟨i, l, h1, q⟩
      | _ => simp [q] at he
  | _ => cases he
theorem RvOk.esc {G' : Hp} {y : V} {r : Rv} (h : RvOk F K G H σ δ y r) (g : Same G G') (hl : δ'.length = δ.length) (fr : ∀ l p, r = .ow l → y = .ref p → G p = none → ¬ Own σ δ p → G' p = none ∧ ¬ Own σ δ' p) : RvOk F K G' H σ δ' y r := by
  cases r with
  | fz d => exact DQ.up g h
  | ow l =>
    obtain ⟨p, vs, rfl, h1, h2, h3, h4, h5⟩ := h
    obtain ⟨a, b⟩ := fr l p rfl rfl h2 h4
    exact ⟨p, vs, rfl, h1, a, h3.up g, b, h5⟩
  | sl i => exact ⟨h.1, by rw [hl]; exact h.2⟩
  | di l => obtain ⟨a, kvs, e, h1, h2, h3⟩ := h; exact ⟨a, kvs, e, g _ _ h1, h2, h3.up g⟩
  | cl f => obtain ⟨a, Gc, e, h0, h1⟩ := h; exact ⟨a, Gc, e, h0, h1.trans (g)⟩
  | nd n => obtain ⟨d, f, c', e0, e, h1, h2⟩ := h; exact ⟨d, f, c', e0, e, g _ _ h1, g _ _ h2⟩
theorem RvsOk.esc {G' : Hp} {xs : List V} {rs : List Rv} (h : RvsOk F K G H σ δ xs rs) (g : Same G G') (hl : δ'.length = δ.length) (fr : ∀ y l p, (y, Rv.ow l) ∈ xs.zip rs → y = .ref p → G p = none → ¬ Own σ δ p → G' p = none ∧ ¬ Own σ δ' p) : RvsOk F K G' H σ δ' xs rs := by
  induction h with
  | nil => exact .nil
  | cons a b c ih =>
    refine .cons (a.esc g hl fun l p e1 e2 => fr _ l p ?_ e2) (ih fun y l p hm => fr y l p ?_) c
    · rw [List.zip_cons_cons, e1]; exact List.mem_cons_self
    · rw [List.zip_cons_cons]; exact List.mem_cons_of_mem _ hm
theorem escL_ok {xs : List V} {rs : List Rv} {ds : List D} (sb : Step F K G0 H0 σ δ0 G H σ δ) (h : RvsOk F K G H σ δ xs rs) (nw : RvsNew σ δ0 H0 xs rs) (he : escL rs δ = some (ds, δ')) :
    ∃ G', Step F K G0 H0 σ δ0 G' H σ δ' ∧ DQA K G' xs ds ∧ Same G G' := by
  induction rs generalizing xs ds G δ δ' with
  | nil => cases h; cases he; exact ⟨G, sb, .nil, Same.refl G⟩
  | cons r rs ih =>
    cases h with
    | cons a b c =>
      cases nw with
      | cons n1 n2 =>
        unfold escL at he
        cases q : esc1 r δ with
        | none => simp [q] at he
        | some w =>
          obtain ⟨d, δ1⟩ := w
          obtain ⟨G1, s1, h1, hl, hs, fr⟩ := esc1_ok sb a n1 q
          cases q2 : escL rs δ1 with
          | none => simp [q, q2] at he
          | some w =>
            obtain ⟨ds2, δ2⟩ := w
            simp [q, q2] at he
            obtain ⟨rfl, rfl⟩ := he
            obtain ⟨G2, s2, h2, h3⟩ := ih s1 (b.esc hs hl fun y l p hm e h1 h2 => fr p h1 (fun l' z e' => c l' y l z hm (e'.trans e.symm)) h2) n2 q2
            exact ⟨G2, s2, .cons (h1.up h3) h2, hs.trans h3⟩
end
end MP

set_option Elab.async false
set_option linter.all false
set_option maxRecDepth 100000
set_option maxHeartbeats 2000000
namespace MP
open PySem PySem.Spec PyProof.Rows L2 LamX NdefX

/-! ### displays -/
def line : Nat := 16777216
theorem line_eq : line = sizeLine := by rw [sizeLine_eq]; rfl
def tupM (m : AM) : EM := fun δ => (m δ).bind fun rs δ1 => match escL rs δ1 with
  | some (ds, δ2) => if ds.length ≤ line then .ok (.fz (.tuple ds)) δ2 else .bad
  | none => .bad
def lstM (m : AM) : EM := fun δ => (m δ).bind fun rs δ1 => match escL rs δ1 with
  | some (ds, δ2) => if ds.length ≤ line then .ok (.ow ds) δ2 else .bad
  | none => .bad
section
variable {F : Fr} {W : WX} {X : Cx} {pos : Pos}
theorem Same.app_new {G H : Hp} (s : Same G H) {p : Addr} {o : HO} (h : H p = none) : Same G (upd H p o) := s.trans (Same.upd_new h)
theorem DE.tup {es : List Expr} {m : AM} {x1 : Nat} (ha : DA F W X es m) : DE F W X (.Tuple es x1 pos) (tupM m) := by
  refine ⟨PE.cons (pe_tup ha.pa) ?_⟩
  rintro σ H Q ⟨G, δ, e, h⟩
  refine ⟨G, δ, e, PostA.mono (h.bindA (Step.refl e)) fun xs H1 ⟨G1, δ1, vs, s1, rv1, nw1, h1⟩ => ?_⟩
  cases q : escL vs δ1 with
  | none => simp [q] at h1; exact h1.elim
  | some w =>
    obtain ⟨ds, δ2⟩ := w
    simp only [q] at h1
    obtain ⟨G2, s2, d2, _⟩ := escL_ok s1 rv1 nw1 q
    by_cases hl : ds.length ≤ line
    · rw [if_pos hl] at h1
      refine ⟨by rw [d2.len, ← line_eq]; exact hl, fun p hp => h1 _ _ _ (s2.trans (Step.grow (Grow.both s2.e.st.sub hp fun ps z => by cases z) s2.e)) ?_ trivial⟩
      exact .tup (SqT.of upd_same) (d2.up (Same.upd_new (s2.e.st.sub.free hp)))
    · rw [if_neg hl] at h1; exact h1.elim
theorem DE.lst {es : List Expr} {m : AM} (ha : DA F W X es m) : DE F W X (.List es pos) (lstM m) := by
  refine ⟨PE.cons (pe_lst ha.pa) ?_⟩
  rintro σ H Q ⟨G, δ, e, h⟩
  refine ⟨G, δ, e, PostA.mono (h.bindA (Step.refl e)) fun xs H1 ⟨G1, δ1, vs, s1, rv1, nw1, h1⟩ => ?_⟩
  cases q : escL vs δ1 with
  | none => simp [q] at h1; exact h1.elim
  | some w =>
    obtain ⟨ds, δ2⟩ := w
    simp only [q] at h1
    obtain ⟨G2, s2, d2, _⟩ := escL_ok s1 rv1 nw1 q
    by_cases hl : ds.length ≤ line
    · rw [if_pos hl] at h1
      refine ⟨by rw [d2.len, ← line_eq]; exact hl, fun p hp => h1 _ _ _ (s2.trans (Step.grow (Grow.own s2.e.st.sub hp) s2.e)) ?_ fun p' z => ?_⟩
      · refine ⟨p, xs, rfl, upd_same, s2.e.st.sub.free hp, d2, fun o => ?_, fun o => s2.e.pot p o hp⟩
        obtain ⟨vs', l', z, _⟩ := Own.lst s2.e o
        rw [hp] at z; cases z
      · cases z; exact .inl (s1.eff.dom _ hp)
    · rw [if_neg hl] at h1; exact h1.elim

/-! ### one-place operations -/
structure UnD (X : Cx) (fn : Value → Sem Value) (f : D → ORes) : Prop where
  ex : ∃ r : V → Hp → VK → Prop, UnR X fn r ∧ ∀ (G H : Hp) (x : V) (d : D) (Q : VK), Same G H → Cur X.K G H x d → OPost X.K G H Q (f d) → r x H Q
def unM (f : D → ORes) (m : EM) : EM := fun δ => (m δ).bind fun r δ1 => match r.get δ1 with
  | some d => (f d).res δ1
  | none => .bad
theorem TI.un {m : EM} {f : D → ORes} {r : V → Hp → VK → Prop} (hr : ∀ (G H : Hp) (x : V) (d : D) (Q : VK), Same G H → Cur X.K G H x d → OPost X.K G H Q (f d) → r x H Q)
    (σ : L2.St) (H : Hp) (Q : VK) (h : TI F X.K X.mg W (unM f m) σ H Q) : TI F X.K X.mg W m σ H fun x H1 => r x H1 Q := by
  obtain ⟨G, δ, e, h⟩ := h
  refine ⟨G, δ, e, Post.mono (h.bind (Step.refl e)) fun x H1 ⟨G1, δ1, v1, s1, rv1, nw1, h1⟩ => ?_⟩
  split at h1
  · rename_i d g
    exact hr G1 H1 x d Q s1.e.st.sub (rv1.get s1.e g) (OPost.of s1 h1)
  · exact h1.elim
theorem DE.un {a : Expr} {m : EM} {op : UnaryOp} {f : D → ORes} (ho : UnD X (unaryOp op) f) (ha : DE F W X a m) : DE F W X (.UnaryOp op a pos) (unM f m) := by
  obtain ⟨r, h1, h2⟩ := ho.ex
  exact ⟨PE.cons (pe_un h1 ha.pe) (TI.un h2)⟩
def negD : D → ORes
  | .int i => .v (.int (-i))
  | _ => .bad
theorem OPost.v_now {K : PySem.W.Frag} {G H : Hp} {Q : VK} {d : D} {x : V} (h : OPost K G H Q (.v d)) (s : Same G H) (q : DQ K G x d) : Q x H := h x H G (Grow.refl s) q
theorem un_negD : UnD X (unaryOp .USub) negD := ⟨_, un_neg, fun G H x d Q s c h => by
  cases d with
  | int i => exact ⟨i, c.of_int, h.v_now s (.int _)⟩
  | _ => exact h.elim⟩

/-! ### truth -/
def truD : D → Option Bool
  | .none => some false
  | .bool b => some b
  | .int i => some (i != 0)
  | .str x => if x.length ≤ line then some ((x.length : Int) != 0) else none
  | .list l => some !l.isEmpty
  | .tuple l => some !l.isEmpty
  | .dict _ => none
theorem Cur.tru {K : PySem.W.Frag} {G H : Hp} {x : V} {d : D} {b : Bool} (s : Same G H) (c : Cur K G H x d) (h : truD d = some b) : TruV K x H b := by
  cases d with
  | none => cases h; rw [c.of_none]; rfl
  | bool b => cases h; rw [c.of_bool]; rfl
  | int i => cases h; rw [c.of_int]; rfl
  | str z =>
    have h' : (if z.length ≤ line then some ((z.length : Int) != 0) else none) = some b := h
    split at h'
    · rename_i hl; cases h'; rw [c.of_str]; exact ⟨by rw [← line_eq]; exact hl, rfl⟩
    · cases h'
  | list l =>
    cases h
    obtain ⟨a, vs, rfl, h1, h2⟩ := c.of_list s
    refine .inl ⟨vs, h1.sql, ?_⟩
    have := h2.len
    cases vs <;> cases l <;> simp_all
  | tuple l =>
    cases h
    obtain ⟨a, vs, rfl, h1, _, h2⟩ := c.of_tup s
    refine .inr (.inl ⟨vs, h1, ?_⟩)
    have := h2.len
    cases vs <;> cases l <;> simp_all
  | dict l => cases h
def truM (m : EM) : TM := fun δ => (m δ).bind fun r δ1 => match (r.get δ1).bind truD with
  | some b => .ok b δ1
  | none => .bad
theorem DT.tru {a : Expr} {m : EM} (ha : DE F W X a m) (he : ∀ whole, isTrue a X.env whole = (do let v ← whole; standAt a.pos; holding [v] (truthy v)) := by intro _; rfl) : DT F W X a (truM m) := by
  refine ⟨PT.cons (pt_truth ha.pe he) ?_⟩
  rintro σ H Q ⟨G, δ, e, h⟩
  refine ⟨G, δ, e, Post.mono (h.bindE (Step.refl e)) fun x H1 ⟨G1, δ1, v1, s1, rv1, nw1, h1⟩ => ?_⟩
  cases q : (v1.get δ1).bind truD with
  | none => simp only [q] at h1; exact h1.elim
  | some b =>
    simp only [q] at h1
    obtain ⟨d, g, t⟩ := Option.bind_eq_some_iff.mp q
    exact ⟨b, (rv1.get s1.e g).tru s1.e.st.sub t, h1 H1 G1 s1⟩
/-- a comparison's truth -/
def cmpM (f : D → D → ORes) (ma mb : EM) : TM := fun δ => (binM f ma mb δ).bind fun r δ1 => match r with
  | .fz (.bool b) => .ok b δ1
  | _ => .bad
theorem DT.cmp {a b : Expr} {ma mb : EM} {op : CmpOp} {f : D → D → ORes} (ho : OpD X (compareOp op) f) (ha : DE F W X a ma) (hb : DE F W X b mb) (hm : behindInMarks op b = false) : DT F W X (.Compare a [op] [b] pos) (cmpM f ma mb) := by
  obtain ⟨r, h1, h2⟩ := ho.ex
  refine ⟨PT.cons (pt_cmpR h1 ha.pe hb.pe hm) ?_⟩
  rintro σ H Q ⟨G, δ, e, h⟩
  refine TI.bin h2 σ H _ ⟨G, δ, e, ?_⟩
  refine Post.mono (h.bindE (Step.refl e)) fun x H1 ⟨G1, δ1, v1, s1, rv1, nw1, h3⟩ => ?_
  split at h3
  · rename_i b
    have : x = .bl b := by cases (show DQ X.K G1 x (.bool b) from rv1); rfl
    exact ⟨b, this, h3 H1 G1 s1⟩
  · exact h3.elim

/-! ### and, or, not, if -/
def andT (a b : TM) : TM := fun δ => (a δ).bind fun x δ1 => if x then b δ1 else .ok false δ1
def orT (a b : TM) : TM := fun δ => (a δ).bind fun x δ1 => if x then .ok true δ1 else b δ1
def notT (a : TM) : TM := fun δ => (a δ).bind fun x δ1 => .ok (!x) δ1
variable {a b : Expr} {rest : List Expr} {ma mb : EM} {ta tb : TM}
theorem DT.ofW (h : DW F W X a ta) : DT F W X a ta := ⟨h.pw.pt⟩
theorem DW.and1 (h : DT F W X a ta) : DW F W X (.BoolOp .And [a] pos) ta := ⟨pw_and1 h.pt⟩
theorem DW.or1 (h : DT F W X a ta) : DW F W X (.BoolOp .Or [a] pos) ta := ⟨pw_or1 h.pt⟩
theorem DW.and (ha : DT F W X a ta) (hb : DW F W X (.BoolOp .And (b :: rest) pos) tb) : DW F W X (.BoolOp .And (a :: b :: rest) pos) (andT ta tb) := by
  refine ⟨PW.cons (pw_and ha.pt hb.pw) ?_⟩
  rintro σ H Q ⟨G, δ, e, h⟩
  refine ⟨G, δ, e, PostT.mono (h.bindT (Step.refl e)) fun x H1 ⟨G1, δ1, s1, h1⟩ => ?_⟩
  cases x with
  | true => exact ⟨G1, δ1, s1.e, PostT.later (show PostT F X.K X.mg W G H σ δ Q (tb δ1) from h1) s1⟩
  | false => exact (show PostT F X.K X.mg W G H σ δ Q (.ok false δ1) from h1) H1 G1 s1
theorem DW.or (ha : DT F W X a ta) (hb : DW F W X (.BoolOp .Or (b :: rest) pos) tb) : DW F W X (.BoolOp .Or (a :: b :: rest) pos) (orT ta tb) := by
  refine ⟨PW.cons (pw_or ha.pt hb.pw) ?_⟩
  rintro σ H Q ⟨G, δ, e, h⟩
  refine ⟨G, δ, e, PostT.mono (h.bindT (Step.refl e)) fun x H1 ⟨G1, δ1, s1, h1⟩ => ?_⟩
  cases x with
  | false => exact ⟨G1, δ1, s1.e, PostT.later (show PostT F X.K X.mg W G H σ δ Q (tb δ1) from h1) s1⟩
  | true => exact (show PostT F X.K X.mg W G H σ δ Q (.ok true δ1) from h1) H1 G1 s1
theorem DT.not (ha : DT F W X a ta) : DT F W X (.UnaryOp .Not a pos) (notT ta) := by
  refine ⟨PT.cons (pt_not ha.pt) ?_⟩
  rintro σ H Q ⟨G, δ, e, h⟩
  exact ⟨G, δ, e, PostT.mono (h.bindT (Step.refl e)) fun x H1 ⟨G1, δ1, s1, h1⟩ => h1 H1 G1 s1⟩
def ifE (t : TM) (a b : EM) : EM := fun δ => (t δ).bind fun x δ1 => if x then a δ1 else b δ1
theorem DE.ite {c : Expr} (hc : DT F W X c ta) (ha : DE F W X a ma) (hb : DE F W X b mb) : DE F W X (.IfExp c a b pos) (ifE ta ma mb) := by
  refine ⟨PE.cons (pe_ifExp hc.pt ha.pe hb.pe) ?_⟩
  rintro σ H Q ⟨G, δ, e, h⟩
  refine ⟨G, δ, e, PostT.mono (h.bindT (Step.refl e)) fun x H1 ⟨G1, δ1, s1, h1⟩ => ?_⟩
  cases x with
  | true => exact ⟨G1, δ1, s1.e, Post.later (show Post F X.K X.mg W G H σ δ Q (ma δ1) from h1) s1⟩
  | false => exact ⟨G1, δ1, s1.e, Post.later (show Post F X.K X.mg W G H σ δ Q (mb δ1) from h1) s1⟩
/-- and, or of values, by truth -/
def andE (a b : EM) : EM := fun δ => (a δ).bind fun r δ1 => match (r.get δ1).bind truD with
  | some true => b δ1
  | some false => .ok r δ1
  | none => .bad
def orE (a b : EM) : EM := fun δ => (a δ).bind fun r δ1 => match (r.get δ1).bind truD with
  | some true => .ok r δ1
  | some false => b δ1
  | none => .bad
theorem DE.one {op : BoolOp} (h : DE F W X a ma) : DE F W X (.BoolOp op [a] pos) ma := ⟨pe_one h.pe⟩
theorem DE.and (ha : DE F W X a ma) (hb : DE F W X (.BoolOp .And (b :: rest) pos) mb) : DE F W X (.BoolOp .And (a :: b :: rest) pos) (andE ma mb) := by
  refine ⟨PE.cons (pe_andT ha.pe hb.pe) ?_⟩
  rintro σ H Q ⟨G, δ, e, h⟩
  refine ⟨G, δ, e, Post.mono (h.bind (Step.refl e)) fun x H1 ⟨G1, δ1, v1, s1, rv1, nw1, h1⟩ => ?_⟩
  cases q : (v1.get δ1).bind truD with
  | none => simp only [q] at h1; exact h1.elim
  | some k =>
    obtain ⟨d, g, t⟩ := Option.bind_eq_some_iff.mp q
    refine ⟨k, (rv1.get s1.e g).tru s1.e.st.sub t, ?_⟩
    cases k with
    | true => simp only [q] at h1; exact ⟨G1, δ1, s1.e, Post.later h1 s1⟩
    | false => simp only [q] at h1; exact h1 x H1 G1 s1 rv1 nw1
theorem DE.or (ha : DE F W X a ma) (hb : DE F W X (.BoolOp .Or (b :: rest) pos) mb) : DE F W X (.BoolOp .Or (a :: b :: rest) pos) (orE ma mb) := by
  refine ⟨PE.cons (pe_orT ha.pe hb.pe) ?_⟩
  rintro σ H Q ⟨G, δ, e, h⟩
  refine ⟨G, δ, e, Post.mono (h.bind (Step.refl e)) fun x H1 ⟨G1, δ1, v1, s1, rv1, nw1, h1⟩ => ?_⟩
  cases q : (v1.get δ1).bind truD with
  | none => simp only [q] at h1; exact h1.elim
  | some k =>
    obtain ⟨d, g, t⟩ := Option.bind_eq_some_iff.mp q
    refine ⟨k, (rv1.get s1.e g).tru s1.e.st.sub t, ?_⟩
    cases k with
    | false => simp only [q] at h1; exact ⟨G1, δ1, s1.e, Post.later h1 s1⟩
    | true => simp only [q] at h1; exact h1 x H1 G1 s1 rv1 nw1
def notE (m : EM) : EM := fun δ => (m δ).bind fun r δ1 => match (r.get δ1).bind truD with
  | some b => .ok (.fz (.bool (!b))) δ1
  | none => .bad
theorem DE.not (ha : DE F W X a ma) : DE F W X (.UnaryOp .Not a pos) (notE ma) := by
  refine ⟨PE.cons (pe_notT ha.pe) ?_⟩
  rintro σ H Q ⟨G, δ, e, h⟩
  refine ⟨G, δ, e, Post.mono (h.bind (Step.refl e)) fun x H1 ⟨G1, δ1, v1, s1, rv1, nw1, h1⟩ => ?_⟩
  cases q : (v1.get δ1).bind truD with
  | none => simp only [q] at h1; exact h1.elim
  | some k =>
    obtain ⟨d, g, t⟩ := Option.bind_eq_some_iff.mp q
    simp only [q] at h1
    exact ⟨k, (rv1.get s1.e g).tru s1.e.st.sub t, h1 _ H1 G1 s1 (.bl _) trivial⟩
end
end MP

set_option Elab.async false
set_option linter.all false
set_option maxRecDepth 100000
set_option maxHeartbeats 2000000
namespace MP
open PySem PySem.Spec PyProof.Rows L2 LamX NdefX

section
variable {X : Cx}
/-! ### data as the library reads it -/
mutual
theorem DQ.plain {K : PySem.W.Frag} {G : Hp} : ∀ (d : PyData) (v : V), DQ K G v d → d.plain = true
  | .none, _, _ => by simp only [PyData.plain]
  | .bool _, _, _ => by simp only [PyData.plain]
  | .int _, _, _ => by simp only [PyData.plain]
  | .str _, _, _ => by simp only [PyData.plain]
  | .list ds, _, h => by
    cases h with
    | lst hs ha => simp only [PyData.plain]; exact DQA.plain ds _ ha
  | .tuple ds, _, h => by
    cases h with
    | tup hs ha => simp only [PyData.plain]; exact DQA.plain ds _ ha
  | .dict _, _, h => by cases h
theorem DQA.plain {K : PySem.W.Frag} {G : Hp} : ∀ (ds : List PyData) (vs : List V), DQA K G vs ds → PyData.plainAll ds = true
  | [], _, _ => by simp only [PyData.plainAll]
  | d :: ds, _, h => by
    cases h with
    | cons h1 h2 => simp only [PyData.plainAll, DQ.plain d _ h1, DQA.plain ds _ h2, Bool.and_self]
end
theorem DQ.rd {pins : List (Addr × Obj)} {σ : L2.St} {H : Hp} {s : Shared} {d : D} {v : V} {u : Value} (I : Inv X pins σ H s) (h : DQ X.K H v d) (r : RelV v u) : ∃ as, Reads s.heap u d as := Dp.reads I d v u (DQ.dp d v h) r

/-! ### == != < -/
def dep : Nat := 60
def eqD (d e : D) : ORes := if min d.depth e.depth ≤ dep then .v (.bool (PyData.eqv d e)) else .bad
def neD (d e : D) : ORes := if min d.depth e.depth ≤ dep then .v (.bool (!PyData.eqv d e)) else .bad
def cmpOk (d e : D) : Bool := PySem.W.alike d e && (match d with | .none => false | _ => true) && decide (min d.depth e.depth ≤ dep)
def ltD (d e : D) : ORes := if cmpOk d e = true then .v (.bool (PySem.W.dataLt d e)) else .bad
def gtD (d e : D) : ORes := if cmpOk d e = true then .v (.bool (PySem.W.dataLt e d)) else .bad
def leD (d e : D) : ORes := if cmpOk d e = true then .v (.bool (!PySem.W.dataLt e d)) else .bad
def geD (d e : D) : ORes := if cmpOk d e = true then .v (.bool (!PySem.W.dataLt d e)) else .bad
/-- a comparison that the data decide -/
def rD2 (K : PySem.W.Frag) (C : D → D → Prop) (f : D → D → Bool) : R2 := fun x y H Q => ∃ d e, DQ K H x d ∧ DQ K H y e ∧ C d e ∧ Q (.bl (f d e)) H
theorem opD2 {op : CmpOp} {C : D → D → Prop} {f : D → D → Bool}
    (h : ∀ (s : Shared) (v u : Value) (d e : D) (as bs : List Addr) (Q : Value → Shared → Prop), Reads s.heap v d as → Reads s.heap u e bs → d.plain = true → e.plain = true → C d e → Q (.bool (f d e)) s → wpAny (model X.prog X.w) X.A (compareOp op v u) Q X.xe s) :
    OpR X (compareOp op) (rD2 X.K C f) := by
  rintro pins s σ H x y v u Q I rx ry ⟨d, e, hd, he, hc, q⟩
  obtain ⟨as, r1⟩ := DQ.rd I hd rx
  obtain ⟨bs, r2⟩ := DQ.rd I he ry
  exact h s v u d e as bs _ r1 r2 (DQ.plain d x hd) (DQ.plain e y he) hc ⟨.bl _, H, I, rfl, q⟩
theorem OpD.of2 {fn : Value → Value → Sem Value} {C : D → D → Prop} {f : D → D → Bool} {g : D → D → ORes} (h : OpR X fn (rD2 X.K C f)) (hg : ∀ d e, g d e = .bad ∨ (C d e ∧ g d e = .v (.bool (f d e)))) : OpD X fn g := by
  refine ⟨_, h, fun G H x y d e Q s c1 c2 p => ?_⟩
  rcases hg d e with z | ⟨c, z⟩
  · rw [z] at p; exact p.elim
  · rw [z] at p; exact ⟨d, e, c1.now s, c2.now s, c, p.v_now s (.bl _)⟩
theorem room_min {A : Around} {a : Nat} {d e : D} (hu : A.units + 64 < cLine) (ha : a ≤ 2) (h : min d.depth e.depth ≤ dep) : A.units + a + min d.depth e.depth < cLine := by
  unfold dep at h; omega
variable {k : Nat} (hr : Room k X.A)
include hr
theorem op_eqD' : OpD X (compareOp .Eq) eqD := OpD.of2 (C := fun d e => min d.depth e.depth ≤ dep) (opD2 fun s v u d e as bs Q r1 r2 p1 p2 hc q => SeqAt.eq_plain r1 r2 p1 p2 (by have := room_min (a := 0) hr.units (by decide) hc; omega) q)
  fun d e => by unfold eqD; split <;> simp_all
theorem op_neD' : OpD X (compareOp .NotEq) neD := OpD.of2 (C := fun d e => min d.depth e.depth ≤ dep) (opD2 fun s v u d e as bs Q r1 r2 p1 p2 hc q => SeqAt.ne_plain r1 r2 p1 p2 (by have := room_min (a := 0) hr.units (by decide) hc; omega) q)
  fun d e => by unfold neD; split <;> simp_all
omit hr in
theorem cmpOk_of {d e : D} (h : cmpOk d e = true) : PySem.W.alike d e = true ∧ d ≠ .none ∧ min d.depth e.depth ≤ dep := by
  unfold cmpOk at h
  simp only [Bool.and_eq_true, decide_eq_true_eq] at h
  refine ⟨h.1.1, ?_, h.2⟩
  rintro rfl
  simp at h
theorem op_ltD : OpD X (compareOp .Lt) ltD := OpD.of2 (C := fun d e => cmpOk d e = true) (opD2 fun s v u d e as bs Q r1 r2 p1 p2 hc q => PySem.W.lt_data r1 r2 (cmpOk_of hc).1 (cmpOk_of hc).2.1 (by have := room_min (a := 0) hr.units (by decide) (cmpOk_of hc).2.2; omega) q)
  fun d e => by unfold ltD; split <;> simp_all
theorem op_gtD : OpD X (compareOp .Gt) gtD := OpD.of2 (C := fun d e => cmpOk d e = true) (opD2 fun s v u d e as bs Q r1 r2 p1 p2 hc q => PySem.W.gt_data r1 r2 (cmpOk_of hc).1 (cmpOk_of hc).2.1 (by have := room_min (a := 0) hr.units (by decide) (cmpOk_of hc).2.2; omega) q)
  fun d e => by unfold gtD; split <;> simp_all
theorem op_leD : OpD X (compareOp .LtE) leD := OpD.of2 (C := fun d e => cmpOk d e = true) (opD2 fun s v u d e as bs Q r1 r2 p1 p2 hc q => PySem.W.le_data r1 r2 (cmpOk_of hc).1 (cmpOk_of hc).2.1 (by have := room_min (a := 0) hr.units (by decide) (cmpOk_of hc).2.2; omega) q)
  fun d e => by unfold leD; split <;> simp_all
theorem op_geD : OpD X (compareOp .GtE) geD := OpD.of2 (C := fun d e => cmpOk d e = true) (opD2 fun s v u d e as bs Q r1 r2 p1 p2 hc q => PySem.W.ge_data r1 r2 (cmpOk_of hc).1 (cmpOk_of hc).2.1 (by have := room_min (a := 0) hr.units (by decide) (cmpOk_of hc).2.2; omega) q)
  fun d e => by unfold geD; split <;> simp_all

/-! ### in -/
def inStr (x y : Str) : Bool := !(Builtin.Str.occurrences y x 0 y.length 1).isEmpty
def inB (d e : D) : Option Bool := match e with
  | .list l => if d.depth ≤ dep then some (l.any fun y => PyData.eqv y d) else none
  | .tuple l => if d.depth ≤ dep then some (l.any fun y => PyData.eqv y d) else none
  | .str y => match d with
    | .str x => some (inStr x y)
    | _ => none
  | _ => none
def inD (d e : D) : ORes := match inB d e with
  | some b => .v (.bool b)
  | none => .bad
def notInD (d e : D) : ORes := match inB d e with
  | some b => .v (.bool (!b))
  | none => .bad
omit hr in
theorem room_in {A : Around} {l : List D} {d : D} (hu : A.units + 64 < cLine) (h : d.depth ≤ dep) : A.units + 1 + min (PyData.depthAll l) d.depth < cLine := by
  unfold dep at h; omega
theorem op_inD' : OpD X (compareOp .In) inD := by
  have h1 : OpR X (compareOp .In) (rD2 X.K (fun d e => ∃ b, inB d e = some b ∧ ∀ y, e ≠ .str y) (fun d e => (inB d e).getD false)) := opD2 fun s v u d e as bs Q r1 r2 p1 p2 hc q => by
    obtain ⟨b, hb, hs⟩ := hc
    rw [hb] at q
    cases e with
    | list l =>
      unfold inB at hb
      by_cases hd : d.depth ≤ dep
      · simp only [hd, if_true, Option.some.injEq] at hb
        subst hb
        exact SeqAt.in_list_data r2 r1 (by simpa [PyData.plain] using p2) p1 (room_in hr.units hd) q
      · simp [hd] at hb
    | tuple l =>
      unfold inB at hb
      by_cases hd : d.depth ≤ dep
      · simp only [hd, if_true, Option.some.injEq] at hb
        subst hb
        exact SeqAt.in_tuple_data r2 r1 (by simpa [PyData.plain] using p2) p1 (room_in hr.units hd) q
      · simp [hd] at hb
    | str y => exact absurd rfl (hs y)
    | _ => simp [inB] at hb
  refine ⟨_, h1.or op_in_str, fun G H x y d e Q s c1 c2 p => ?_⟩
  unfold inD at p
  cases hb : inB d e with
  | none => simp only [hb] at p; exact p.elim
  | some b =>
    simp only [hb] at p
    cases e with
    | str y' =>
      cases d with
      | str x' =>
        refine .inr ⟨x', y', c1.of_str, c2.of_str, ?_⟩
        have e : b = inStr x' y' := (Option.some.inj hb).symm
        rw [e] at p
        exact p.v_now s (.bl _)
      | _ => simp [inB] at hb
    | _ => exact .inl ⟨d, _, c1.now s, c2.now s, ⟨b, hb, fun y z => by cases z⟩, by dsimp only; rw [hb]; exact p.v_now s (.bl _)⟩
theorem op_notInD' : OpD X (compareOp .NotIn) notInD := by
  have h1 : OpR X (compareOp .NotIn) (rD2 X.K (fun d e => ∃ b, inB d e = some b ∧ ∀ y, e ≠ .str y) (fun d e => !(inB d e).getD false)) := opD2 fun s v u d e as bs Q r1 r2 p1 p2 hc q => by
    obtain ⟨b, hb, hs⟩ := hc
    rw [hb] at q
    cases e with
    | list l =>
      unfold inB at hb
      by_cases hd : d.depth ≤ dep
      · simp only [hd, if_true, Option.some.injEq] at hb
        subst hb
        exact SeqAt.notIn_list_data r2 r1 (by simpa [PyData.plain] using p2) p1 (room_in hr.units hd) q
      · simp [hd] at hb
    | tuple l =>
      unfold inB at hb
      by_cases hd : d.depth ≤ dep
      · simp only [hd, if_true, Option.some.injEq] at hb
        subst hb
        exact SeqAt.notIn_tuple_data r2 r1 (by simpa [PyData.plain] using p2) p1 (room_in hr.units hd) q
      · simp [hd] at hb
    | str y => exact absurd rfl (hs y)
    | _ => simp [inB] at hb
  refine ⟨_, h1.or L2.op_notIn_str, fun G H x y d e Q s c1 c2 p => ?_⟩
  unfold notInD at p
  cases hb : inB d e with
  | none => simp only [hb] at p; exact p.elim
  | some b =>
    simp only [hb] at p
    cases e with
    | str y' =>
      cases d with
      | str x' =>
        refine .inr ⟨x', y', c1.of_str, c2.of_str, ?_⟩
        have e : b = inStr x' y' := (Option.some.inj hb).symm
        rw [e] at p
        exact p.v_now s (.bl _)
      | _ => simp [inB] at hb
    | _ => exact .inl ⟨d, _, c1.now s, c2.now s, ⟨b, hb, fun y z => by cases z⟩, by dsimp only; rw [hb]; exact p.v_now s (.bl _)⟩
omit hr
/-! ### is None -/
def isNone : D → Bool
  | .none => true
  | _ => false
def isD (d e : D) : ORes := match e with
  | .none => .v (.bool (isNone d))
  | _ => .bad
def isNotD (d e : D) : ORes := match e with
  | .none => .v (.bool (!isNone d))
  | _ => .bad
theorem Cur.non_iff {K : PySem.W.Frag} {G H : Hp} {x : V} {d : D} (c : Cur K G H x d) : decide (x = .non) = isNone d := by
  rcases c with h | ⟨a, vs, l, rfl, rfl, h1, h2⟩
  · cases h <;> simp [isNone]
  · simp [isNone]
theorem op_isD : OpD X (compareOp .Is) isD := ⟨_, op_isN, fun G H x y d e Q s c1 c2 p => by
  cases e with
  | none =>
    refine ⟨c2.of_none, ?_⟩
    rw [c1.non_iff]
    exact p.v_now s (.bl _)
  | _ => exact p.elim⟩
theorem op_isNotD : OpD X (compareOp .IsNot) isNotD := ⟨_, op_notN, fun G H x y d e Q s c1 c2 p => by
  cases e with
  | none =>
    refine ⟨c2.of_none, ?_⟩
    rw [c1.non_iff]
    exact p.v_now s (.bl _)
  | _ => exact p.elim⟩

/-! ### arithmetic -/
def addD (d e : D) : ORes := match d, e with
  | .int i, .int j => .v (.int (i + j))
  | .str x, .str y => if x.length + y.length ≤ line then .v (.str (x ++ y)) else .bad
  | .tuple a, .tuple b => if a.length + b.length ≤ line then .v (.tuple (a ++ b)) else .bad
  | .list a, .list b => if a.length + b.length ≤ line then .nl (a ++ b) else .bad
  | _, _ => .bad
/-- list + list, either may be one that is only read -/
def rCatR (K : PySem.W.Frag) : R2 := fun x y H Q => ∃ l b xs zs, x = .ref l ∧ y = .ref b ∧ RdK K H l xs ∧ RdK K H b zs ∧ xs.length + zs.length ≤ sizeLine ∧ ∀ p, H p = none → Q (.ref p) (upd H p (.lst (xs ++ zs)))
theorem Rd.lstM {pins : List (Addr × Obj)} {σ : L2.St} {H : Hp} {s : Shared} {l : Addr} {xs : List V} (I : Inv X pins σ H s) (h : RdK X.K H l xs) : xs.length ≤ sizeLine ∧ ∃ (its : List Value) (n : Nat), Vals xs its ∧ xs.length = its.length ∧ s.heap.get? l = some { cls := .type "list", data := .seq its.toArray n } := by
  rcases h with h | ⟨its, n, h1, h2, h3⟩
  · obtain ⟨z, its, n, r, e⟩ := h.ok I.hok
    exact ⟨z, its, n, r, r.length, e⟩
  · exact ⟨by rw [h3.length, Array.length_toList]; exact h2, its.toList, n, h3, h3.length, by have := I.kIn _ _ h1; simpa using this⟩
theorem op_catR : OpR X (binaryOp .Add) (rCatR X.K) := by
  intro pins s σ H x y v u Q I rx ry h
  obtain ⟨l, b, xs, zs, rfl, rfl, hH, hB, hz, q⟩ := h
  cases rx
  cases ry
  obtain ⟨z, its, n, r, hl, e⟩ := Rd.lstM I hH
  obtain ⟨z2, its2, n2, r2, hl2, e2⟩ := Rd.lstM I hB
  refine PySem.P.add_list e e2 ?_ (by rw [List.size_toArray, List.size_toArray]; omega)
  have ea : its.toArray ++ its2.toArray = (its ++ its2).toArray := by simp
  rw [ea]
  exact ⟨.ref _, _, I.lnew (t' := s.toks) (r.append r2) (by rw [List.length_append]; omega), rfl, q _ I.fresh⟩
theorem OPost.v_new {K : PySem.W.Frag} {G H : Hp} {Q : VK} {l : List D} {vs : List V} {p : Addr} (h : OPost K G H Q (.v (.tuple l))) (s : Same G H) (n : H p = none) (q : DQA K G vs l) : Q (.ref p) (upd H p (.tup vs)) :=
  h _ _ _ (Grow.both s n fun ps z => by cases z) (.tup (SqT.of upd_same) (q.up (Same.upd_new (s.free n))))
theorem OPost.nl_new {K : PySem.W.Frag} {G H : Hp} {Q : VK} {l : List D} {vs : List V} {p : Addr} (h : OPost K G H Q (.nl l)) (s : Same G H) (n : H p = none) (q : DQA K G vs l) : Q (.ref p) (upd H p (.lst vs)) :=
  h p vs _ G (Grow.own s n) n upd_same (s.free n) q
theorem op_addD : OpD X (binaryOp .Add) addD := by
  refine ⟨_, op_add.or (op_add_str.or (op_catA.or op_catR)), fun G H x y d e Q s c1 c2 p => ?_⟩
  cases d <;> cases e <;> first | exact p.elim | skip
  · exact .inl ⟨_, _, c1.of_int, c2.of_int, p.v_now s (.int _)⟩
  · rename_i a b
    have p' : OPost X.K G H Q (if a.length + b.length ≤ line then .v (.str (a ++ b)) else .bad) := p
    split at p'
    · rename_i hl
      exact .inr (.inl ⟨a, b, c1.of_str, c2.of_str, by rw [← line_eq]; exact hl, p'.v_now s (.str _)⟩)
    · exact p'.elim
  · rename_i a b
    have p' : OPost X.K G H Q (if a.length + b.length ≤ line then .nl (a ++ b) else .bad) := p
    split at p'
    · rename_i hl
      obtain ⟨l1, vs1, rfl, h1, h2⟩ := c1.of_list s
      obtain ⟨l2, vs2, rfl, h3, h4⟩ := c2.of_list s
      exact .inr (.inr (.inr ⟨l1, l2, vs1, vs2, rfl, rfl, h1, h3, by rw [h2.len, h4.len, ← line_eq]; exact hl, fun p hp => p'.nl_new s hp (h2.app h4)⟩))
    · exact p'.elim
  · rename_i a b
    have p' : OPost X.K G H Q (if a.length + b.length ≤ line then .v (.tuple (a ++ b)) else .bad) := p
    split at p'
    · rename_i hl
      obtain ⟨l1, vs1, rfl, h1, g1, h2⟩ := c1.of_tup s
      obtain ⟨l2, vs2, rfl, h3, g3, h4⟩ := c2.of_tup s
      refine .inr (.inr (.inl ⟨l1, l2, vs1, vs2, rfl, rfl, h1, h3, by rw [h2.len, h4.len, ← line_eq]; exact hl, fun e => ?_, fun _ e => ?_, fun _ _ p hp => p'.v_new s hp (h2.app h4)⟩))
      · subst e
        cases h2
        exact p'.v_now s (.tup g3 h4)
      · subst e
        cases h4
        rw [List.append_nil] at p'
        exact p'.v_now s (.tup g1 h2)
    · exact p'.elim
def subD (d e : D) : ORes := match d, e with
  | .int i, .int j => .v (.int (i - j))
  | _, _ => .bad
theorem op_subD : OpD X (binaryOp .Sub) subD := ⟨_, op_sub, fun G H x y d e Q s c1 c2 p => by
  cases d <;> cases e <;> first | exact p.elim | skip
  exact ⟨_, _, c1.of_int, c2.of_int, p.v_now s (.int _)⟩⟩
def big : Int := 18446744073709551616
def mulD (d e : D) : ORes := match d, e with
  | .int i, .int j => if (-big < i ∧ i < big) ∨ (-big < j ∧ j < big) then .v (.int (i * j)) else .bad
  | .tuple l, .int k => if l ≠ [] ∧ 2 ≤ k ∧ k ≤ 1000 ∧ l.length ≤ 1000 then .v (.tuple (List.replicate k.toNat l).flatten) else .bad
  | .list l, .int k => if 0 ≤ k ∧ k ≤ 1000 ∧ l.length ≤ 1000 then .nl (List.replicate k.toNat l).flatten else .bad
  | .str x, .int k => if 0 ≤ k ∧ k ≤ 1000 ∧ x.length ≤ 1000 then .v (.str (Txt.mul x k)) else .bad
  | _, _ => .bad
def rRepR (K : PySem.W.Frag) : R2 := fun x y H Q => ∃ l k xs, x = .ref l ∧ y = .int k ∧ RdK K H l xs ∧ -(2 ^ 63) ≤ k ∧ k < 2 ^ 63 ∧ xs.length * k.toNat ≤ sizeLine ∧
  ∀ p, H p = none → Q (.ref p) (upd H p (.lst (List.replicate k.toNat xs).flatten))
theorem op_repR : OpR X (binaryOp .Mult) (rRepR X.K) := by
  intro pins s σ H x y v u Q I rx ry h
  obtain ⟨l, k, xs, rfl, rfl, hH, h1, h2, hz, q⟩ := h
  cases rx
  obtain ⟨t, rfl⟩ := ry
  obtain ⟨z, its, n, r, hl, e⟩ := Rd.lstM I hH
  have hlen : its.toArray.size * k.toNat ≤ sizeLine := by rw [List.size_toArray, ← hl]; exact hz
  have hcap : ¬ its.toArray.size * k.toNat > (2 ^ 63 - 1) / 8 := by
    have : (sizeLine : Nat) ≤ (2 ^ 63 - 1) / 8 := by decide
    omega
  have hfit : ¬ (!Builtin.List.listFitsIndex k) = true := by
    rw [fitsIndex_both h1 h2]
    exact Bool.false_ne_true
  have hlong : ¬ Builtin.List.listTooLong (its.toArray.size * k.toNat) = true := by
    rw [notLongL hlen]
    exact Bool.false_ne_true
  have hnew : List.foldl (fun x1 x2 => x1 ++ x2) #[] (List.replicate (if its.toArray.isEmpty = true then 0 else k.toNat) its.toArray) = (List.replicate k.toNat its).flatten.toArray := by
    have f0 : ∀ m : Nat, List.foldl (fun x1 x2 => x1 ++ x2) #[] (List.replicate m its.toArray) = (List.replicate m its).flatten.toArray := fun m => by
      have := foldl_rep its m []
      rw [List.nil_append] at this
      exact this
    rw [f0]
    cases its with
    | nil => simp
    | cons a r' => rw [if_neg (by simp)]
  refine wpAny_binaryOp_repeat_ref (T := "list") (U := "int") (by decide) ⟨_, e, rfl⟩ (fun s' => typeIs_int s' k t) noFill_list_mul F.fills_int_mul F.slot_int_rmul repeat_list F.slot_int_index.lookup
    (call_meets F.slot_int_rmul (typeIs_int s k t) F.entry_int_rmul (F.args_int_rmul_2 _ _) (int___rmul___int_list k t l its.toArray n)
      ⟨e, rfl, ⟨_, e, rfl⟩, call_meets F.slot_list_mul ⟨_, e, rfl⟩ F.entry_list_mul (F.args_list_mul_2 _ _) (AutoListH.list___mul___list_int_3 l its.toArray n k t hfit hcap hlong) ⟨e, ?_⟩⟩)
  rw [hnew]
  exact ⟨.ref _, _, I.lnew (t' := s.toks) (r.rep k.toNat) (by rw [PyProof.Rows.lm_len_rep_flat, Nat.mul_comm]; exact hz), rfl, q _ I.fresh⟩
theorem DQA.rep {K : PySem.W.Frag} {G : Hp} {vs : List V} {ds : List D} (h : DQA K G vs ds) : ∀ k : Nat, DQA K G (List.replicate k vs).flatten (List.replicate k ds).flatten
  | 0 => .nil
  | k + 1 => by simp only [List.replicate_succ, List.flatten_cons]; exact h.app (DQA.rep h k)
theorem op_mulStr : OpR X (binaryOp .Mult) (fun x y H Q => ∃ z k, x = .str z ∧ y = .int k ∧ (0 ≤ k ∧ k ≤ 1000 ∧ z.length ≤ 1000) ∧ Q (.str (Txt.mul z k)) H) := by
  rintro pins s σ H x y v u Q I rx ry ⟨z, k, rfl, rfl, ⟨h1, h2, h3⟩, q⟩
  obtain ⟨t, rfl⟩ := rx
  obtain ⟨t', rfl⟩ := ry
  refine SB.mul ⟨?_, fun a b => ?_, fun a b => ?_⟩ fun t' k' => ⟨.str _, H, I.tok _, ⟨_, rfl⟩, q⟩
  · rw [decide_eq_false (by omega), decide_eq_false (by omega)]; rfl
  · have hk : 2 ≤ k := by
      by_cases hk : k = 1
      · subst hk; simp at b
      · omega
    have : (9223372036854775807 : Int) / 1000 ≤ (2 ^ 63 - 1) / k := by
      have e : ((2 : Int) ^ 63 - 1) = 9223372036854775807 := by decide
      rw [e]
      have h0 : (9223372036854775807 : Int) / 1000 * k ≤ 9223372036854775807 := by
        have a1 : (9223372036854775807 : Int) / 1000 * k ≤ (9223372036854775807 : Int) / 1000 * 1000 := Int.mul_le_mul_of_nonneg_left h2 (by decide)
        exact Int.le_trans a1 (by decide)
      exact (Int.le_ediv_iff_mul_le (by omega)).mpr h0
    have e2 : (9223372036854775807 : Int) / 1000 = 9223372036854775 := by decide
    omega
  · unfold Builtin.Str.tooLong
    have a1 : z.length * k.toNat ≤ 1000 * 1000 := Nat.mul_le_mul h3 (by omega)
    have := sizeLine_eq
    simp only [decide_eq_false_iff_not]
    omega
theorem op_mulD : OpD X (binaryOp .Mult) mulD := by
  refine ⟨_, op_mul.or (op_repT.or (op_repR.or op_mulStr)), fun G H x y d e Q s c1 c2 p => ?_⟩
  cases d <;> cases e <;> first | exact p.elim | skip
  · rename_i i j
    have p' : OPost X.K G H Q (if (-big < i ∧ i < big) ∨ (-big < j ∧ j < big) then .v (.int (i * j)) else .bad) := p
    split at p'
    · rename_i hl
      exact .inl ⟨_, _, c1.of_int, c2.of_int, by unfold CMul; unfold big at hl; omega, p'.v_now s (.int _)⟩
    · exact p'.elim
  · rename_i a k
    have p' : OPost X.K G H Q (if 0 ≤ k ∧ k ≤ 1000 ∧ a.length ≤ 1000 then .v (.str (Txt.mul a k)) else .bad) := p
    split at p'
    · rename_i hl
      exact .inr (.inr (.inr ⟨a, k, c1.of_str, c2.of_int, hl, p'.v_now s (.str _)⟩))
    · exact p'.elim
  · rename_i a k
    have p' : OPost X.K G H Q (if 0 ≤ k ∧ k ≤ 1000 ∧ a.length ≤ 1000 then .nl (List.replicate k.toNat a).flatten else .bad) := p
    split at p'
    · rename_i hl
      obtain ⟨l1, vs1, rfl, h1, h2⟩ := c1.of_list s
      refine .inr (.inr (.inl ⟨l1, k, vs1, rfl, c2.of_int, h1, by omega, by omega, ?_, fun p hp => p'.nl_new s hp (DQA.rep h2 _)⟩))
      rw [h2.len, sizeLine_eq]
      have a1 : a.length * k.toNat ≤ 1000 * 1000 := Nat.mul_le_mul hl.2.2 (by omega)
      omega
    · exact p'.elim
  · rename_i a k
    have p' : OPost X.K G H Q (if a ≠ [] ∧ 2 ≤ k ∧ k ≤ 1000 ∧ a.length ≤ 1000 then .v (.tuple (List.replicate k.toNat a).flatten) else .bad) := p
    split at p'
    · rename_i hl
      obtain ⟨l1, vs1, rfl, h1, g1, h2⟩ := c1.of_tup s
      refine .inr (.inl ⟨l1, k, vs1, rfl, c2.of_int, h1, fun z => hl.1 ?_, hl.2.1, hl.2.2.1, by rw [h2.len]; exact hl.2.2.2, fun p hp => p'.v_new s hp (DQA.rep h2 _)⟩)
      subst z
      cases h2
      rfl
    · exact p'.elim
def fdivD (d e : D) : ORes := match d, e with
  | .int i, .int j => if 0 < j ∧ j < 1073741824 then .v (.int (i / j)) else .bad
  | _, _ => .bad
theorem op_fdivD : OpD X (binaryOp .FloorDiv) fdivD := ⟨_, op_fdiv, fun G H x y d e Q s c1 c2 p => by
  cases d <;> cases e <;> first | exact p.elim | skip
  rename_i i j
  have p' : OPost X.K G H Q (if 0 < j ∧ j < 1073741824 then .v (.int (i / j)) else .bad) := p
  split at p'
  · rename_i hl
    exact ⟨_, _, c1.of_int, c2.of_int, hl, p'.v_now s (.int _)⟩
  · exact p'.elim⟩
def modD (d e : D) : ORes := match d, e with
  | .int i, .int j => if 0 < j then .v (.int (i % j)) else .bad
  | _, _ => .bad
theorem op_modD : OpD X (binaryOp .Mod) modD := ⟨_, op_mod, fun G H x y d e Q s c1 c2 p => by
  cases d <;> cases e <;> first | exact p.elim | skip
  rename_i i j
  have p' : OPost X.K G H Q (if 0 < j then .v (.int (i % j)) else .bad) := p
  split at p'
  · rename_i hl
    exact ⟨_, _, c1.of_int, c2.of_int, hl, p'.v_now s (.int _)⟩
  · exact p'.elim⟩
def powD (d e : D) : ORes := match d, e with
  | .int i, .int j => if 0 ≤ j ∧ j ≤ 1000000 ∧ i.natAbs < 18446744073709551616 then .v (.int (i ^ j.toNat)) else .bad
  | _, _ => .bad
theorem op_powD : OpD X (binaryOp .Pow) powD := ⟨_, op_pow, fun G H x y d e Q s c1 c2 p => by
  cases d <;> cases e <;> first | exact p.elim | skip
  rename_i i j
  have p' : OPost X.K G H Q (if 0 ≤ j ∧ j ≤ 1000000 ∧ i.natAbs < 18446744073709551616 then .v (.int (i ^ j.toNat)) else .bad) := p
  split at p'
  · rename_i hl
    exact ⟨_, _, c1.of_int, c2.of_int, hl, p'.v_now s (.int _)⟩
  · exact p'.elim⟩
end
end MP

set_option Elab.async false
set_option linter.all false
set_option maxRecDepth 100000
set_option maxHeartbeats 2000000
namespace MP
open PySem PySem.Spec PyProof.Rows L2 LamX NdefX

/-! ### subscripts -/
theorem DQA.atI {K : PySem.W.Frag} {G : Hp} {vs : List V} {ds : List D} {i : Int} {d : D} (h : DQA K G vs ds) (e : L2.atI ds i = some d) : ∃ v, L2.atI vs i = some v ∧ DQ K G v d := by
  unfold L2.atI at e ⊢
  rw [h.len]
  cases q : ixN ds.length i with
  | none => rw [q] at e; cases e
  | some j =>
    rw [q] at e
    exact DQA.at' h e
def ixD (d e : D) : ORes := match d, e with
  | .list l, .int i => match L2.atI l i with | some d => .v d | none => .bad
  | .tuple l, .int i => match L2.atI l i with | some d => .v d | none => .bad
  | .str z, .int i => if z.length ≤ line then (match L2.atI z.cps.toList i with | some c => .v (.str ⟨#[c]⟩) | none => .bad) else .bad
  | _, _ => .bad
def keyD : D → Option Key
  | .int i => some (.inl i)
  | .str x => some (.inr x)
  | _ => none
def dlook : List (Key × D) → Key → Option D
  | [], _ => none
  | (c, d) :: r, k => if c = k then some d else dlook r k
theorem DiRep.look {K : PySem.W.Frag} {G : Hp} : ∀ {kvs : List (Key × V)} {l : List (Key × D)} {k : Key}, DiRep K G kvs l → (∀ d, dlook l k = some d → ∃ v, valV kvs k = some v ∧ DQ K G v d) ∧ (dlook l k = none → valV kvs k = none)
  | [], [], k, _ => ⟨fun d z => (by cases z), fun _ => rfl⟩
  | [], _ :: _, _, h => h.elim
  | _ :: _, [], _, h => h.elim
  | (c, v) :: r, (c', d) :: q, k, h => by
    obtain ⟨rfl, h1, h2⟩ := h
    obtain ⟨i1, i2⟩ := DiRep.look (k := k) h2
    unfold dlook valV
    by_cases e : c' = k
    · rw [if_pos e]
      refine ⟨fun d' z => ?_, fun z => (by cases z)⟩
      cases z
      exact ⟨v, by rw [List.find?_cons_of_pos (by simpa using e)]; rfl, h1⟩
    · rw [if_neg e, List.find?_cons_of_neg (by simpa using e)]
      exact ⟨i1, i2⟩
def rIxDict : R2 := fun x y H Q => ∃ a v, x = .ref a ∧ DGet H a y (some v) ∧ Q v H
theorem ix_dict {X : Cx} (hu : X.A.units + 1 < cLine) : IxR X rIxDict := by
  intro value slice pins s σ H x y v u Q I rx ry h hs
  obtain ⟨a, w, rfl, g, q⟩ := h
  obtain rfl : v = Value.ref a := rx
  have hT := dict_typeIs I g
  have h₂ : wpAny (model X.prog X.w) X.A (getItem (.ref a) u) (EP X pins σ Q) X.xe s := d_getItem hu I g ry fun w' s3 I3 rw' => ⟨w, H, I3, rw', q⟩
  unfold subscriptTail
  refine wpAny_bind ?_
  rw [getitemInPython_of_ne hT.not_modules]
  refine wpAny_bind (wpAny_specialOf hT PySem.F.slot_dict_getitem.lookup ?_)
  have fin : wpAny (model X.prog X.w) X.A (subscripted slice false (.ref a) u) (fun r s₃ => wpAny (model X.prog X.w) X.A (letTemporaryGo value (.ref a) r >>= fun _ => pure r) (EP X pins σ Q) X.xe s₃) X.xe s := by
    rw [hs]
    exact wpAny_operating (wpAny_mono h₂ (fun r s₃ h₃ => wpAny_bind (wpAny_letTemporaryGo (wpAny_pure h₃))) fun _ _ x => x)
  first
    | exact wpAny_pure (wpAny_bind fin)
    | exact wpAny_bind (wpAny_pure (wpAny_bind fin))
    | exact wpAny_bind fin
def ixM (ma mb : EM) : EM := fun δ => (ma δ).bind fun r1 δ1 => (mb δ1).bind fun r2 δ2 => match r1 with
  | .di l => match (r2.get δ2).bind keyD with
    | some k => match dlook l k with | some d => .ok (.fz d) δ2 | none => .bad
    | none => .bad
  | r1 => match r1.get δ2, r2.get δ2 with
    | some d1, some d2 => (ixD d1 d2).res δ2
    | _, _ => .bad
section
variable {F : Fr} {W : WX} {X : Cx} {pos : Pos} {a b : Expr} {ma mb : EM}
theorem DE.ix (hu : X.A.units + 1 < cLine) (ha : DE F W X a ma) (hb : DE F W X b mb) (hs : PlainIx b) : DE F W X (.Subscript a b pos) (ixM ma mb) := by
  refine ⟨PE.cons (pe_ix (ix_list.or (ix_tup.or (ix_str.or (ix_dict hu)))) ha.pe hb.pe hs) ?_⟩
  rintro σ H Q ⟨G, δ, e, h⟩
  refine ⟨G, δ, e, Post.mono (h.bind (Step.refl e)) fun x H1 ⟨G1, δ1, v1, s1, rv1, nw1, h1⟩ => ⟨G1, δ1, s1.e, Post.mono (h1.bind s1) fun y H2 ⟨G2, δ2, v2, s2, rv2, nw2, h2⟩ => ?_⟩⟩
  have rv1' := rv1.step s2 (s2.len s1.e)
  have gen : ∀ d1 d2, v1.get δ2 = some d1 → v2.get δ2 = some d2 → Post F X.K X.mg W G H σ δ Q ((ixD d1 d2).res δ2) → (rIxL X.K x y H2 Q ∨ rIxT X.K x y H2 Q ∨ rIxS x y H2 Q ∨ rIxDict x y H2 Q) := by
    intro d1 d2 g1 g2 h3
    have c1 := rv1'.get s2.e g1
    have c2 := rv2.get s2.e g2
    have p := OPost.of (s1.trans s2) h3
    cases d1 <;> cases d2 <;> first | exact p.elim | skip
    · rename_i z i
      unfold ixD at p
      simp only at p
      split at p
      · rename_i hl
        split at p
        · rename_i c hc
          exact .inr (.inr (.inl ⟨z, i, c, c1.of_str, c2.of_int, by rw [← line_eq]; exact hl, hc, p.v_now s2.e.st.sub (.str _)⟩))
        · exact p.elim
      · exact p.elim
    · rename_i l i
      unfold ixD at p
      simp only at p
      split at p
      · rename_i d hd
        obtain ⟨a', vs, rfl, h4, h5⟩ := c1.of_list s2.e.st.sub
        obtain ⟨v, e1, e2⟩ := DQA.atI h5 hd
        exact .inl ⟨a', vs, i, v, rfl, c2.of_int, h4.sql, e1, p.v_now s2.e.st.sub e2⟩
      · exact p.elim
    · rename_i l i
      unfold ixD at p
      simp only at p
      split at p
      · rename_i d hd
        obtain ⟨a', vs, rfl, h4, g4, h5⟩ := c1.of_tup s2.e.st.sub
        obtain ⟨v, e1, e2⟩ := DQA.atI h5 hd
        exact .inr (.inl ⟨a', vs, i, v, rfl, c2.of_int, h4, e1, p.v_now s2.e.st.sub e2⟩)
      · exact p.elim
  cases v1 with
  | di l =>
    simp only at h2
    cases q : (v2.get δ2).bind keyD with
    | none => simp only [q] at h2; exact h2.elim
    | some k =>
      simp only [q] at h2
      cases q2 : dlook l k with
      | none => simp only [q2] at h2; exact h2.elim
      | some d =>
        simp only [q2] at h2
        obtain ⟨a', kvs, rfl, h4, h5, h6⟩ := rv1'
        obtain ⟨v, e1, e2⟩ := (h6.look (k := k)).1 d q2
        obtain ⟨dk, g, hk⟩ := Option.bind_eq_some_iff.mp q
        have c2 := rv2.get s2.e g
        have hy : y = kV k := by
          cases dk <;> first | cases hk | skip
          · exact c2.of_int
          · exact c2.of_str
        refine .inr (.inr (.inr ⟨a', v, rfl, .inl ⟨kvs, k, .inl (s2.e.st.sub _ _ h4), hy, e1.symm⟩, ?_⟩))
        exact h2 v H2 G2 (s1.trans s2) e2 trivial
  | _ =>
    simp only at h2
    split at h2
    · rename_i d1 d2 g1 g2
      exact gen d1 d2 g1 g2 h2
    · exact h2.elim
end

/-! ### built-in functions of data -/
inductive CurA (K : PySem.W.Frag) (G H : Hp) : List V → List D → Prop
  | nil : CurA K G H [] []
  | cons {x : V} {d : D} {xs : List V} {ds : List D} : Cur K G H x d → CurA K G H xs ds → CurA K G H (x :: xs) (d :: ds)
structure CallD (X : Cx) (fv : Value) (f : List D → ORes) : Prop where
  ex : ∃ r : List V → Hp → VK → Prop, CallR X fv r ∧ ∀ (G H : Hp) (xs : List V) (ds : List D) (Q : VK), Same G H → CurA X.K G H xs ds → OPost X.K G H Q (f ds) → r xs H Q
def getL (δ : Dl) : List Rv → Option (List D)
  | [] => some []
  | r :: rs => match r.get δ, getL δ rs with
    | some d, some ds => some (d :: ds)
    | _, _ => none
def biM (f : List D → ORes) (m : AM) : EM := fun δ => (m δ).bind fun rs δ1 => match getL δ1 rs with
  | some ds => (f ds).res δ1
  | none => .bad
theorem RvsOk.get {F : Fr} {K : PySem.W.Frag} {G H : Hp} {σ : L2.St} {δ : Dl} {xs : List V} {rs : List Rv} {ds : List D} (e : EOk F K G H σ δ) (h : RvsOk F K G H σ δ xs rs) (g : getL δ rs = some ds) : CurA K G H xs ds := by
  induction h generalizing ds with
  | nil => cases g; exact .nil
  | cons a b _ ih =>
    rename_i r xs rs _
    unfold getL at g
    cases q1 : r.get δ with
    | none => simp [q1] at g
    | some d =>
      cases q2 : getL δ rs with
      | none => simp [q1, q2] at g
      | some ds' =>
        simp [q1, q2] at g
        subst g
        exact .cons (a.get e q1) (ih q2)
section
variable {F : Fr} {W : WX} {X : Cx} {pos p : Pos} {e : Expr} {es : List Expr} {m : AM} {id T : String} {x : Str} {f : List D → ORes}
theorem TI.bi {r : List V → Hp → VK → Prop} (hr : ∀ (G H : Hp) (xs : List V) (ds : List D) (Q : VK), Same G H → CurA X.K G H xs ds → OPost X.K G H Q (f ds) → r xs H Q)
    (σ : L2.St) (H : Hp) (Q : VK) (h : TI F X.K X.mg W (biM f m) σ H Q) : tCB r (TAI F X.K X.mg W m) σ H Q := by
  obtain ⟨G, δ, e, h⟩ := h
  refine ⟨G, δ, e, PostA.mono (h.bindA (Step.refl e)) fun xs H1 ⟨G1, δ1, vs, s1, rv1, nw1, h1⟩ => ?_⟩
  split at h1
  · rename_i ds g
    exact hr G1 H1 xs ds Q s1.e.st.sub (rv1.get s1.e g) (OPost.of s1 h1)
  · exact h1.elim
theorem DE.callB (hc : CallD X (.builtin id) f) (ha : DA F W X (e :: es) m) (hm : X.mg x = Option.none) (hg : Gl X x := by rfl) (hv : bootBuiltins x = some (.builtin id) := by rfl) (hn : x ≠ "__name__" := by decide) (hdb : (x == ("__debug__" : Str)) = false := by decide)
    (he : starEach (e :: es) X.env = (false, eval e X.env) :: starEach es X.env := by rfl) (hpl : (backTo pos (starEach es X.env)).any (·.1) = false := by rfl) : DE F W X (.Call (.Name x p) (e :: es) [] pos) (biM f m) := by
  obtain ⟨r, h1, h2⟩ := hc.ex
  exact ⟨PE.cons (pe_callB h1 hg hm hv ha.pa hn hdb he hpl) (TI.bi h2)⟩
theorem DE.callTy (hc : CallD X (.type T) f) (ha : DA F W X (e :: es) m) (hm : X.mg x = Option.none) (hg : Gl X x := by rfl) (hv : bootBuiltins x = some (.type T) := by rfl) (hn : x ≠ "__name__" := by decide) (hdb : (x == ("__debug__" : Str)) = false := by decide)
    (he : starEach (e :: es) X.env = (false, eval e X.env) :: starEach es X.env := by rfl) (hpl : (backTo pos (starEach es X.env)).any (·.1) = false := by rfl) : DE F W X (.Call (.Name x p) (e :: es) [] pos) (biM f m) := by
  obtain ⟨r, h1, h2⟩ := hc.ex
  exact ⟨PE.cons (pe_callTy h1 hg hm hv ha.pa hn hdb he hpl) (TI.bi h2)⟩
end
section
variable {X : Cx}
/-- one argument -/
theorem CallD.of1 {fv : Value} {f : D → ORes} {g : List D → ORes} {r : V → Hp → VK → Prop} (hr : CallR X fv (fun xs H Q => ∃ x, xs = [x] ∧ r x H Q)) (hg : ∀ d, g [d] = f d) (hb : ∀ ds, (∀ d, ds ≠ [d]) → g ds = .bad)
    (h : ∀ (G H : Hp) (x : V) (d : D) (Q : VK), Same G H → Cur X.K G H x d → OPost X.K G H Q (f d) → r x H Q) : CallD X fv g := ⟨_, hr, fun G H xs ds Q s c p => by
  cases c with
  | nil => rw [hb [] (fun d z => by cases z)] at p; exact p.elim
  | cons c cs =>
    cases cs with
    | cons => rw [hb _ (fun d z => by cases z)] at p; exact p.elim
    | nil => rw [hg] at p; exact ⟨_, rfl, h G H _ _ Q s c p⟩⟩
theorem CallD.of2 {fv : Value} {f : D → D → ORes} {g : List D → ORes} {r : V → V → Hp → VK → Prop} (hr : CallR X fv (fun xs H Q => ∃ x y, xs = [x, y] ∧ r x y H Q)) (hg : ∀ d e, g [d, e] = f d e) (hb : ∀ ds, (∀ d e, ds ≠ [d, e]) → g ds = .bad)
    (h : ∀ (G H : Hp) (x y : V) (d e : D) (Q : VK), Same G H → Cur X.K G H x d → Cur X.K G H y e → OPost X.K G H Q (f d e) → r x y H Q) : CallD X fv g := ⟨_, hr, fun G H xs ds Q s c p => by
  cases c with
  | nil => rw [hb [] (fun d e z => by cases z)] at p; exact p.elim
  | cons c cs =>
    cases cs with
    | nil => rw [hb _ (fun d e z => by cases z)] at p; exact p.elim
    | cons c2 cs =>
      cases cs with
      | cons => rw [hb _ (fun d e z => by cases z)] at p; exact p.elim
      | nil => rw [hg] at p; exact ⟨_, _, rfl, h G H _ _ _ _ Q s c c2 p⟩⟩
theorem CallR.imp {f : Value} {r r' : List V → Hp → VK → Prop} (h : CallR X f r) (i : ∀ xs H Q, r' xs H Q → r xs H Q) : CallR X f r' := fun pins s σ H xs us Q I r q => h pins s σ H xs us Q I r (i _ _ _ q)
/-- how many: a list function from a function of one -/
def arg1 (f : D → ORes) : List D → ORes
  | [d] => f d
  | _ => .bad
def arg2 (f : D → D → ORes) : List D → ORes
  | [d, e] => f d e
  | _ => .bad
theorem arg1_bad {f : D → ORes} : ∀ ds : List D, (∀ d, ds ≠ [d]) → arg1 f ds = .bad
  | [], _ => rfl
  | [d], h => absurd rfl (h d)
  | _ :: _ :: _, _ => rfl
theorem arg2_bad {f : D → D → ORes} : ∀ ds : List D, (∀ d e, ds ≠ [d, e]) → arg2 f ds = .bad
  | [], _ => rfl
  | [_], _ => rfl
  | [d, e], h => absurd rfl (h d e)
  | _ :: _ :: _ :: _, _ => rfl
theorem CallD.mk1 {fv : Value} {f : D → ORes} {r : V → Hp → VK → Prop} (hr : CallR X fv (fun xs H Q => ∃ x, xs = [x] ∧ r x H Q))
    (h : ∀ (G H : Hp) (x : V) (d : D) (Q : VK), Same G H → Cur X.K G H x d → OPost X.K G H Q (f d) → r x H Q) : CallD X fv (arg1 f) := CallD.of1 hr (fun _ => rfl) arg1_bad h
theorem CallD.mk2 {fv : Value} {f : D → D → ORes} {r : V → V → Hp → VK → Prop} (hr : CallR X fv (fun xs H Q => ∃ x y, xs = [x, y] ∧ r x y H Q))
    (h : ∀ (G H : Hp) (x y : V) (d e : D) (Q : VK), Same G H → Cur X.K G H x d → Cur X.K G H y e → OPost X.K G H Q (f d e) → r x y H Q) : CallD X fv (arg2 f) := CallD.of2 hr (fun _ _ => rfl) arg2_bad h
def lenD : D → ORes
  | .list l => .v (.int l.length)
  | .tuple l => .v (.int l.length)
  | .str z => if z.length ≤ line then .v (.int z.length) else .bad
  | _ => .bad
theorem bi_len : CallD X (.builtin "len") (arg1 lenD) := CallD.mk1 (r := fun x H Q => (∃ p ys, x = .ref p ∧ (SqL X.K H p ys ∨ SqT X.K H p ys) ∧ Q (.int ys.length) H) ∨ ∃ z, x = .str z ∧ z.length ≤ sizeLine ∧ Q (.int z.length) H)
  (CallR.imp (call_len_seq.or call_len_str) fun xs H Q ⟨x, e, h⟩ => h.imp (fun ⟨p, ys, e2, q⟩ => ⟨p, ys, by rw [e, e2], q⟩) fun ⟨z, e2, q⟩ => ⟨z, by rw [e, e2], q⟩) fun G H x d Q s c p => by
  cases d <;> first | exact p.elim | skip
  · rename_i z
    have p' : OPost X.K G H Q (if z.length ≤ line then .v (.int z.length) else .bad) := p
    split at p'
    · rename_i hl
      exact .inr ⟨z, c.of_str, by rw [← line_eq]; exact hl, p'.v_now s (.int _)⟩
    · exact p'.elim
  · obtain ⟨a, vs, rfl, h1, h2⟩ := c.of_list s
    exact .inl ⟨a, vs, rfl, .inl h1.sql, by rw [h2.len]; exact p.v_now s (.int _)⟩
  · obtain ⟨a, vs, rfl, h1, _, h2⟩ := c.of_tup s
    exact .inl ⟨a, vs, rfl, .inr h1, by rw [h2.len]; exact p.v_now s (.int _)⟩
def absD : D → ORes
  | .int i => .v (.int (if i < 0 then -i else i))
  | _ => .bad
theorem bi_abs : CallD X (.builtin "abs") (arg1 absD) := CallD.mk1 (r := fun x H Q => ∃ i, x = .int i ∧ Q (.int (if i < 0 then -i else i)) H) (CallR.imp call_abs fun xs H Q ⟨x, e, i, e2, q⟩ => ⟨i, by rw [e, e2], q⟩) fun G H x d Q s c p => by
  cases d <;> first | exact p.elim | skip
  exact ⟨_, c.of_int, p.v_now s (.int _)⟩
def intD : D → ORes
  | .int i => .v (.int i)
  | .bool k => .v (.int (if k then 1 else 0))
  | _ => .bad
theorem bi_int : CallD X (.type "int") (arg1 intD) := CallD.mk1 (r := fun x H Q => (∃ i, x = .int i ∧ Q (.int i) H) ∨ ∃ k, x = .bl k ∧ Q (.int (if k then 1 else 0)) H) (CallR.imp call_int1 fun xs H Q ⟨x, e, h⟩ => h.imp (fun ⟨i, e2, q⟩ => ⟨i, by rw [e, e2], q⟩) fun ⟨i, e2, q⟩ => ⟨i, by rw [e, e2], q⟩) fun G H x d Q s c p => by
  cases d <;> first | exact p.elim | skip
  · exact .inr ⟨_, c.of_bool, p.v_now s (.int _)⟩
  · exact .inl ⟨_, c.of_int, p.v_now s (.int _)⟩
def max2D (d e : D) : ORes := match d, e with
  | .int i, .int j => .v (.int (if j > i then j else i))
  | _, _ => .bad
def min2D (d e : D) : ORes := match d, e with
  | .int i, .int j => .v (.int (if j < i then j else i))
  | _, _ => .bad
def dmD (d e : D) : ORes := match d, e with
  | .int i, .int j => if 0 < j ∧ j < 1073741824 then .v (.tuple [.int (i / j), .int (i % j)]) else .bad
  | _, _ => .bad
variable (hc : X.calm = true)
include hc
theorem bi_max2 : CallD X (.builtin "max") (arg2 max2D) := CallD.mk2 (r := fun x y H Q => ∃ i j, x = .int i ∧ y = .int j ∧ Q (.int (if j > i then j else i)) H) (CallR.imp (call_max2 hc) fun xs H Q ⟨x, y, e, i, j, e1, e2, q⟩ => ⟨i, j, by rw [e, e1, e2], q⟩) fun G H x y d e Q s c1 c2 p => by
  cases d <;> cases e <;> first | exact p.elim | skip
  exact ⟨_, _, c1.of_int, c2.of_int, p.v_now s (.int _)⟩
theorem bi_min2 : CallD X (.builtin "min") (arg2 min2D) := CallD.mk2 (r := fun x y H Q => ∃ i j, x = .int i ∧ y = .int j ∧ Q (.int (if j < i then j else i)) H) (CallR.imp (call_min2 hc) fun xs H Q ⟨x, y, e, i, j, e1, e2, q⟩ => ⟨i, j, by rw [e, e1, e2], q⟩) fun G H x y d e Q s c1 c2 p => by
  cases d <;> cases e <;> first | exact p.elim | skip
  exact ⟨_, _, c1.of_int, c2.of_int, p.v_now s (.int _)⟩
omit hc
theorem bi_divmod : CallD X (.builtin "divmod") (arg2 dmD) := CallD.mk2 (r := fun x y H Q => ∃ i j, x = .int i ∧ y = .int j ∧ CDiv i j ∧ ∀ p, H p = none → Q (.ref p) (upd H p (.tup [.int (i / j), .int (i % j)]))) (CallR.imp call_divmod fun xs H Q ⟨x, y, e, i, j, e1, e2, q⟩ => ⟨i, j, by rw [e, e1, e2], q⟩) fun G H x y d e Q s c1 c2 p => by
  cases d <;> cases e <;> first | exact p.elim | skip
  rename_i i j
  have p' : OPost X.K G H Q (if 0 < j ∧ j < 1073741824 then .v (.tuple [.int (i / j), .int (i % j)]) else .bad) := p
  split at p'
  · rename_i hl
    exact ⟨_, _, c1.of_int, c2.of_int, hl, fun q hq => p'.v_new s hq (.cons (.int _) (.cons (.int _) .nil))⟩
  · exact p'.elim
/-- ints, bools, texts of a list -/
def intsOf : List D → Option (List Int)
  | [] => some []
  | .int i :: r => (intsOf r).map (i :: ·)
  | _ :: _ => none
def boolsOf : List D → Option (List Bool)
  | [] => some []
  | .bool i :: r => (boolsOf r).map (i :: ·)
  | _ :: _ => none
def strsOf : List D → Option (List Str)
  | [] => some []
  | .str i :: r => (strsOf r).map (i :: ·)
  | _ :: _ => none
theorem intsOf_rep {K : PySem.W.Frag} {G : Hp} : ∀ {ds : List D} {vs : List V} {ns : List Int}, DQA K G vs ds → intsOf ds = some ns → vs = ns.map V.int
  | [], _, _, .nil, e => by cases e; rfl
  | d :: ds, _, ns, .cons a b, e => by
    cases d <;> first | cases e | skip
    rename_i i
    cases q : intsOf ds with
    | none => simp [intsOf, q] at e
    | some ms =>
      simp [intsOf, q] at e
      subst e
      cases a
      rw [intsOf_rep b q]; rfl
theorem boolsOf_rep {K : PySem.W.Frag} {G : Hp} : ∀ {ds : List D} {vs : List V} {ns : List Bool}, DQA K G vs ds → boolsOf ds = some ns → vs = ns.map V.bl
  | [], _, _, .nil, e => by cases e; rfl
  | d :: ds, _, ns, .cons a b, e => by
    cases d <;> first | cases e | skip
    rename_i i
    cases q : boolsOf ds with
    | none => simp [boolsOf, q] at e
    | some ms =>
      simp [boolsOf, q] at e
      subst e
      cases a
      rw [boolsOf_rep b q]; rfl
theorem strsOf_rep {K : PySem.W.Frag} {G : Hp} : ∀ {ds : List D} {vs : List V} {ns : List Str}, DQA K G vs ds → strsOf ds = some ns → vs = ns.map V.str
  | [], _, _, .nil, e => by cases e; rfl
  | d :: ds, _, ns, .cons a b, e => by
    cases d <;> first | cases e | skip
    rename_i i
    cases q : strsOf ds with
    | none => simp [strsOf, q] at e
    | some ms =>
      simp [strsOf, q] at e
      subst e
      cases a
      rw [strsOf_rep b q]; rfl
def sumD : D → ORes
  | .list l => match intsOf l with | some ns => .v (.int ns.sum) | none => .bad
  | _ => .bad
def allD : D → ORes
  | .list l => match boolsOf l with | some ns => .v (.bool (ns.all id)) | none => .bad
  | _ => .bad
def anyD : D → ORes
  | .list l => match boolsOf l with | some ns => .v (.bool (ns.any id)) | none => .bad
  | _ => .bad
include hc
theorem bi_sum : CallD X (.builtin "sum") (arg1 sumD) := CallD.mk1 (r := fun x H Q => ∃ (a : Addr) (ns : List Int), x = V.ref a ∧ SqL X.K H a (ns.map V.int) ∧ Q (.int ns.sum) H) (CallR.imp (cr_sum hc) fun xs H Q ⟨x, e, a, ns, e1, q⟩ => ⟨a, ns, by rw [e, e1], q⟩) fun G H x d Q s c p => by
  cases d <;> first | exact p.elim | skip
  rename_i l
  obtain ⟨a, vs, rfl, h1, h2⟩ := c.of_list s
  unfold sumD at p
  cases q : intsOf l with
  | none => simp only [q] at p; exact p.elim
  | some ns => simp only [q] at p; exact ⟨a, ns, rfl, by rw [← intsOf_rep h2 q]; exact h1.sql, p.v_now s (.int _)⟩
theorem bi_all : CallD X (.builtin "all") (arg1 allD) := CallD.mk1 (r := fun x H Q => ∃ (a : Addr) (ns : List Bool), x = V.ref a ∧ SqL X.K H a (ns.map V.bl) ∧ Q (.bl (ns.all id)) H) (CallR.imp (cr_all hc) fun xs H Q ⟨x, e, a, ns, e1, q⟩ => ⟨a, ns, by rw [e, e1], q⟩) fun G H x d Q s c p => by
  cases d <;> first | exact p.elim | skip
  rename_i l
  obtain ⟨a, vs, rfl, h1, h2⟩ := c.of_list s
  unfold allD at p
  cases q : boolsOf l with
  | none => simp only [q] at p; exact p.elim
  | some ns => simp only [q] at p; exact ⟨a, ns, rfl, by rw [← boolsOf_rep h2 q]; exact h1.sql, p.v_now s (.bl _)⟩
theorem bi_any : CallD X (.builtin "any") (arg1 anyD) := CallD.mk1 (r := fun x H Q => ∃ (a : Addr) (ns : List Bool), x = V.ref a ∧ SqL X.K H a (ns.map V.bl) ∧ Q (.bl (ns.any id)) H) (CallR.imp (cr_any hc) fun xs H Q ⟨x, e, a, ns, e1, q⟩ => ⟨a, ns, by rw [e, e1], q⟩) fun G H x d Q s c p => by
  cases d <;> first | exact p.elim | skip
  rename_i l
  obtain ⟨a, vs, rfl, h1, h2⟩ := c.of_list s
  unfold anyD at p
  cases q : boolsOf l with
  | none => simp only [q] at p; exact p.elim
  | some ns => simp only [q] at p; exact ⟨a, ns, rfl, by rw [← boolsOf_rep h2 q]; exact h1.sql, p.v_now s (.bl _)⟩
omit hc
/-! list(..), tuple(..) of a list or a tuple -/
def listD : D → ORes
  | .list l => .nl l
  | .tuple l => .nl l
  | _ => .bad
def tupleD : D → ORes
  | .list l => .v (.tuple l)
  | .tuple l => .v (.tuple l)
  | _ => .bad
theorem bi_list : CallD X (.type "list") (arg1 listD) := CallD.mk1 (r := fun x H Q => ∃ p ys, x = .ref p ∧ (SqL X.K H p ys ∨ SqT X.K H p ys) ∧ ∀ l, H l = none → Q (.ref l) (upd H l (.lst ys))) (CallR.imp call_list_of fun xs H Q ⟨x, e, a, ns, e1, q⟩ => ⟨a, ns, by rw [e, e1], q⟩) fun G H x d Q s c p => by
  cases d <;> first | exact p.elim | skip
  · obtain ⟨a, vs, rfl, h1, h2⟩ := c.of_list s
    exact ⟨a, vs, rfl, .inl h1.sql, fun l hl => p.nl_new s hl h2⟩
  · obtain ⟨a, vs, rfl, h1, _, h2⟩ := c.of_tup s
    exact ⟨a, vs, rfl, .inr h1, fun l hl => p.nl_new s hl h2⟩
theorem bi_tuple : CallD X (.type "tuple") (arg1 tupleD) := CallD.mk1 (r := fun x H Q => ∃ p ys, x = .ref p ∧ ((SqL X.K H p ys ∧ ∀ l, H l = none → Q (.ref l) (upd H l (.tup ys))) ∨ (SqT X.K H p ys ∧ Q (.ref p) H))) (CallR.imp call_tuple_of fun xs H Q ⟨x, e, a, ns, e1, q⟩ => ⟨a, ns, by rw [e, e1], q⟩) fun G H x d Q s c p => by
  cases d <;> first | exact p.elim | skip
  · obtain ⟨a, vs, rfl, h1, h2⟩ := c.of_list s
    exact ⟨a, vs, rfl, .inl ⟨h1.sql, fun l hl => p.v_new s hl h2⟩⟩
  · obtain ⟨a, vs, rfl, h1, g1, h2⟩ := c.of_tup s
    exact ⟨a, vs, rfl, .inr ⟨h1, p.v_now s (.tup g1 h2)⟩⟩
end
end MP

set_option Elab.async false
set_option linter.all false
set_option maxRecDepth 100000
set_option maxHeartbeats 2000000
namespace MP
open PySem PySem.Spec PyProof.Rows L2 LamX NdefX

section
variable {X : Cx}
theorem DQA.readsAll {pins : List (Addr × Obj)} {σ : L2.St} {H : Hp} {s : Shared} {ds : List D} {vs : List V} {us : List Value} (I : Inv X pins σ H s) (h : DQA X.K H vs ds) (r : Vals vs us) : ∃ as, ReadsAll s.heap us ds as := Dp.readsAll I ds vs us (DQA.dp ds vs h) r
/-! ### sorted -/
def tupNE : D → Bool
  | .tuple (_ :: _) => true
  | _ => false
def notTup : D → Bool
  | .none => false
  | .tuple _ => false
  | _ => true
def sortOk (ds : List D) : Bool := (ds.all fun d => ds.all fun e => PySem.W.alike d e) && (ds.all tupNE || ds.all notTup) && (ds.all fun d => decide (d.depth ≤ dep)) && decide (ds.length ≤ line)
theorem sortOk_of {ds : List D} (h : sortOk ds = true) : PySem.W.AllAlike ds ∧ PySem.W.Sortable ds ∧ (∀ d, d ∈ ds → d.depth ≤ dep) ∧ ds.length ≤ line := by
  unfold sortOk at h
  simp only [Bool.and_eq_true, Bool.or_eq_true, List.all_eq_true, decide_eq_true_eq] at h
  obtain ⟨⟨⟨h1, h2⟩, h3⟩, h4⟩ := h
  refine ⟨fun d hd e he => h1 d hd e he, h2.imp (fun z d hd => ?_) fun z d hd => ?_, h3, h4⟩
  · have := z d hd
    unfold tupNE at this
    split at this
    · exact ⟨_, _, rfl⟩
    · cases this
  · have := z d hd
    unfold notTup at this
    split at this <;> first | cases this | skip
    rename_i h1 h2
    exact ⟨h1, h2⟩
def srt (ds : List D) : List D := ds.mergeSort (PySem.W.dataLe false id)
def sortD : D → ORes
  | .list l => if sortOk l = true then .nl (srt l) else .bad
  | _ => .bad
def RU (K : PySem.W.Frag) (G : Hp) : Value → D → Prop := fun u d => ∃ v, RelV v u ∧ DQ K G v d
theorem EachIs.of_dqa {K : PySem.W.Frag} {G : Hp} : ∀ {ds : List D} {vs : List V} {us : List Value}, DQA K G vs ds → Vals vs us → PySem.W.EachIs (RU K G) us ds
  | [], _, _, .nil, .nil => .nil
  | _ :: _, _, _, .cons a b, .cons r t => .cons ⟨_, r, a⟩ (EachIs.of_dqa b t)
theorem EachIs.to_dqa {K : PySem.W.Frag} {G : Hp} : ∀ {ds : List D} {us : List Value}, PySem.W.EachIs (RU K G) us ds → ∃ vs, Vals vs us ∧ DQA K G vs ds
  | [], _, .nil => ⟨[], .nil, .nil⟩
  | _ :: _, _, .cons ⟨v, r, a⟩ t => by
    obtain ⟨vs, h1, h2⟩ := EachIs.to_dqa t
    exact ⟨v :: vs, .cons r h1, .cons a h2⟩
theorem EachIs.reads {pins : List (Addr × Obj)} {σ : L2.St} {H G : Hp} {s : Shared} (I : Inv X pins σ H s) (sm : Same G H) : ∀ {ds : List D} {us : List Value}, PySem.W.EachIs (RU X.K G) us ds → PySem.W.EachIs (fun v b => ∃ as, Reads s.heap v (id b) as) us ds
  | [], _, .nil => .nil
  | _ :: _, _, .cons ⟨v, r, a⟩ t => .cons (DQ.rd I (a.up sm) r) (EachIs.reads I sm t)
def rSortD (X : Cx) : V → Hp → VK → Prop := fun x H Q => ∃ a xs ds G, x = V.ref a ∧ RdK X.K H a xs ∧ Same G H ∧ DQA X.K G xs ds ∧ sortOk ds = true ∧ ∀ p ys, H p = none → DQA X.K G ys (srt ds) → Q (.ref p) (upd H p (.lst ys))
theorem cr_sortD {k : Nat} (hr : Room k X.A) : CallR X (.builtin "sorted") (fun xs H Q => ∃ x, xs = [x] ∧ rSortD X x H Q) := by
  intro pins s σ H xs us Q I r h
  obtain ⟨x, rfl, a, xs, ds, G, rfl, hs, sm, hd, hok, q⟩ := h
  obtain ⟨u, rfl, ru⟩ := vals1 r
  obtain rfl : u = Value.ref a := ru
  obtain ⟨its, rv, hl, hz⟩ := I.list hs.sql
  obtain ⟨h1, h2, h3, h4⟩ := sortOk_of hok
  have e0 : PySem.W.EachIs (RU X.K G) its ds := EachIs.of_dqa hd rv
  refine PySem.W.sorted_data (enc := id) hl.isList e0 (EachIs.reads I sm e0) (by simpa using h1) (by simpa using h2) (by rw [← line_eq]; exact h4) (fun b hb => ?_) fun out hlen ho => ?_
  · have := h3 b hb
    have := hr.un
    unfold dep at *
    show X.A.units + 2 + b.depth < cLine
    omega
  · obtain ⟨ys, h5, h6⟩ := EachIs.to_dqa ho
    obtain ⟨ep, he'⟩ := PyProof.Rows.sortedAll_at s.heap its (List.toArray out)
    have hlen2 : ys.length ≤ sizeLine := by rw [h5.length, hlen, ← line_eq]; exact h4
    refine ⟨.ref _, upd H (s.heap.objs.size + 1) (.lst ys), I.laid (t' := s.toks) (fun _ _ => PyProof.Rows.sortedAll_old) (Nat.le_succ _) ⟨hlen2, out, ep, h5, ?_⟩, rfl, q _ ys (I.hok.fresh (Nat.le_succ _)) h6⟩
    exact he'
theorem bi_sorted {k : Nat} (hr : Room k X.A) : CallD X (.builtin "sorted") (arg1 sortD) := CallD.mk1 (cr_sortD hr) fun G H x d Q s c p => by
  cases d <;> first | exact p.elim | skip
  rename_i l
  obtain ⟨a, vs, rfl, h1, h2⟩ := c.of_list s
  unfold sortD at p
  simp only at p
  split at p
  · rename_i hok
    exact ⟨a, vs, l, G, rfl, h1, s, h2, hok, fun q ys hq hy => p.nl_new s hq hy⟩
  · exact p.elim
/-! ### min, max of ints -/
def minI : Int → List Int → Int
  | m, [] => m
  | m, x :: r => minI (if x < m then x else m) r
def maxI : Int → List Int → Int
  | m, [] => m
  | m, x :: r => maxI (if x > m then x else m) r
theorem minI_mem : ∀ (r : List Int) (m : Int), minI m r ∈ m :: r
  | [], m => List.mem_cons_self
  | x :: r, m => by
    unfold minI
    by_cases h : x < m
    · rw [if_pos h]; exact List.mem_cons_of_mem _ (minI_mem r x)
    · rw [if_neg h]
      rcases List.mem_cons.mp (minI_mem r m) with e | e
      · rw [e]; exact List.mem_cons_self
      · exact List.mem_cons_of_mem _ (List.mem_cons_of_mem _ e)
theorem minI_le : ∀ (r : List Int) (m : Int), ∀ y ∈ m :: r, minI m r ≤ y
  | [], m => fun y hy => by simp at hy; subst hy; exact Int.le_refl _
  | x :: r, m => fun y hy => by
    unfold minI
    by_cases h : x < m
    · rw [if_pos h]
      have h1 := minI_le r x x List.mem_cons_self
      rcases List.mem_cons.mp hy with rfl | hy
      · omega
      · exact minI_le r x y hy
    · rw [if_neg h]
      have h1 := minI_le r m m List.mem_cons_self
      rcases List.mem_cons.mp hy with rfl | hy
      · exact h1
      · rcases List.mem_cons.mp hy with rfl | hy
        · omega
        · exact minI_le r m y (List.mem_cons_of_mem _ hy)
theorem maxI_mem : ∀ (r : List Int) (m : Int), maxI m r ∈ m :: r
  | [], m => List.mem_cons_self
  | x :: r, m => by
    unfold maxI
    by_cases h : x > m
    · rw [if_pos h]; exact List.mem_cons_of_mem _ (maxI_mem r x)
    · rw [if_neg h]
      rcases List.mem_cons.mp (maxI_mem r m) with e | e
      · rw [e]; exact List.mem_cons_self
      · exact List.mem_cons_of_mem _ (List.mem_cons_of_mem _ e)
theorem le_maxI : ∀ (r : List Int) (m : Int), ∀ y ∈ m :: r, y ≤ maxI m r
  | [], m => fun y hy => by simp at hy; subst hy; exact Int.le_refl _
  | x :: r, m => fun y hy => by
    unfold maxI
    by_cases h : x > m
    · rw [if_pos h]
      have h1 := le_maxI r x x List.mem_cons_self
      rcases List.mem_cons.mp hy with rfl | hy
      · omega
      · exact le_maxI r x y hy
    · rw [if_neg h]
      have h1 := le_maxI r m m List.mem_cons_self
      rcases List.mem_cons.mp hy with rfl | hy
      · exact h1
      · rcases List.mem_cons.mp hy with rfl | hy
        · omega
        · exact le_maxI r m y (List.mem_cons_of_mem _ hy)
def min1D : D → ORes
  | .list l => match intsOf l with | some (n :: ns) => .v (.int (minI n ns)) | _ => .bad
  | _ => .bad
def max1D : D → ORes
  | .list l => match intsOf l with | some (n :: ns) => .v (.int (maxI n ns)) | _ => .bad
  | _ => .bad
variable (hc : X.calm = true)
include hc
theorem bi_min1 : CallD X (.builtin "min") (arg1 min1D) := CallD.mk1 (r := fun x H Q => ∃ (a : Addr) (ns : List Int), x = V.ref a ∧ SqL X.K H a (ns.map V.int) ∧ 0 < ns.length ∧ ∀ m, m ∈ ns → (∀ y, y ∈ ns → m ≤ y) → Q (.int m) H) (CallR.imp (cr_min hc) fun xs H Q ⟨x, e, a, ns, e1, q⟩ => ⟨a, ns, by rw [e, e1], q⟩) fun G H x d Q s c p => by
  cases d <;> first | exact p.elim | skip
  rename_i l
  obtain ⟨a, vs, rfl, h1, h2⟩ := c.of_list s
  unfold min1D at p
  cases q : intsOf l with
  | none => simp only [q] at p; exact p.elim
  | some ns =>
    cases ns with
    | nil => simp only [q] at p; exact p.elim
    | cons n ns =>
      simp only [q] at p
      refine ⟨a, n :: ns, rfl, by rw [← intsOf_rep h2 q]; exact h1.sql, by simp, fun m hm hl => ?_⟩
      have e : m = minI n ns := Int.le_antisymm (hl _ (minI_mem ns n)) (minI_le ns n m hm)
      rw [e]
      exact p.v_now s (.int _)
theorem bi_max1 : CallD X (.builtin "max") (arg1 max1D) := CallD.mk1 (r := fun x H Q => ∃ (a : Addr) (ns : List Int), x = V.ref a ∧ SqL X.K H a (ns.map V.int) ∧ 0 < ns.length ∧ ∀ m, m ∈ ns → (∀ y, y ∈ ns → y ≤ m) → Q (.int m) H) (CallR.imp (cr_max hc) fun xs H Q ⟨x, e, a, ns, e1, q⟩ => ⟨a, ns, by rw [e, e1], q⟩) fun G H x d Q s c p => by
  cases d <;> first | exact p.elim | skip
  rename_i l
  obtain ⟨a, vs, rfl, h1, h2⟩ := c.of_list s
  unfold max1D at p
  cases q : intsOf l with
  | none => simp only [q] at p; exact p.elim
  | some ns =>
    cases ns with
    | nil => simp only [q] at p; exact p.elim
    | cons n ns =>
      simp only [q] at p
      refine ⟨a, n :: ns, rfl, by rw [← intsOf_rep h2 q]; exact h1.sql, by simp, fun m hm hl => ?_⟩
      have e : m = maxI n ns := Int.le_antisymm (le_maxI ns n m hm) (hl _ (maxI_mem ns n))
      rw [e]
      exact p.v_now s (.int _)
omit hc
/-! ### repr -/
def reprD (d : D) : ORes := match d with
  | .list l => if (PyData.list l).showable = true ∧ (PyData.list l).depth ≤ dep ∧ (PyData.list l).shown.length ≤ line then .v (.str (PyData.list l).shown) else .bad
  | _ => .bad
mutual
theorem DQ.noDict {K : PySem.W.Frag} {G : Hp} : ∀ (d : PyData) (v : V), DQ K G v d → d.hasDict = false
  | .none, _, _ => by simp only [PyData.hasDict]
  | .bool _, _, _ => by simp only [PyData.hasDict]
  | .int _, _, _ => by simp only [PyData.hasDict]
  | .str _, _, _ => by simp only [PyData.hasDict]
  | .list ds, _, h => by
    cases h with
    | lst hs ha => simp only [PyData.hasDict]; exact DQA.noDict ds _ ha
  | .tuple ds, _, h => by
    cases h with
    | tup hs ha => simp only [PyData.hasDict]; exact DQA.noDict ds _ ha
  | .dict _, _, h => by cases h
theorem DQA.noDict {K : PySem.W.Frag} {G : Hp} : ∀ (ds : List PyData) (vs : List V), DQA K G vs ds → PyData.hasDictAll ds = false
  | [], _, _ => by simp only [PyData.hasDictAll]
  | d :: ds, _, h => by
    cases h with
    | cons h1 h2 => simp only [PyData.hasDictAll, DQ.noDict d _ h1, DQA.noDict ds _ h2, Bool.or_self]
end
theorem bi_repr {k : Nat} (hr : Room k X.A) (hg : X.A.guards = some []) : CallD X (.builtin "repr") (arg1 reprD) := by
  refine CallD.mk1 (r := fun x H Q => ∃ a xs ds, x = V.ref a ∧ RdK X.K H a xs ∧ DQA X.K H xs ds ∧ ((PyData.list ds).showable = true ∧ (PyData.list ds).depth ≤ dep ∧ (PyData.list ds).shown.length ≤ line) ∧ Q (.str (PyData.list ds).shown) H) ?_ fun G H x d Q s c p => ?_
  · intro pins s σ H xs us Q I r h
    obtain ⟨x, rfl, a, xs, ds, rfl, hs, hd, ⟨h1, h2, h3⟩, q⟩ := h
    obtain ⟨u, rfl, ru⟩ := vals1 r
    have hdq : DQ X.K H (.ref a) (.list ds) := .lst hs hd
    obtain ⟨as, hrd⟩ := DQ.rd I hdq ru
    obtain rfl : u = Value.ref a := ru
    have hu := hr.un
    exact PySem.repr_of_reads' hrd h1 (fun z => by rw [DQ.noDict _ _ hdq] at z; cases z) hg (by unfold dep at h2; omega) (fun _ _ e => e) (fun h' u tk hk => ⟨.str _, H, I.kept hk, ⟨_, rfl⟩, q⟩) (by rw [← line_eq]; exact h3)
  · cases d <;> first | exact p.elim | skip
    rename_i l
    obtain ⟨a, vs, rfl, h1, h2⟩ := c.of_list s
    unfold reprD at p
    simp only at p
    split at p
    · rename_i hok
      exact ⟨a, vs, l, rfl, h1, h2.up s, hok, p.v_now s (.str _)⟩
    · exact p.elim
end

/-! ### isinstance -/
def tyD : D → String
  | .none => "NoneType"
  | .bool _ => "bool"
  | .int _ => "int"
  | .str _ => "str"
  | .list _ => "list"
  | .tuple _ => "tuple"
  | .dict _ => "dict"
def isiD (T : String) (d : D) : ORes := match kitB (tyD d) T with
  | some b => .v (.bool b)
  | none => .bad
section
variable {F : Fr} {W : WX} {X : Cx} {pos p p2 : Pos} {a : Expr} {m : EM} {T : String} {x y : Str}
theorem Cur.ty {K : PySem.W.Frag} {G H : Hp} {v : V} {d : D} (s : Same G H) (c : Cur K G H v d) : TyX K H v (.type (tyD d)) := by
  have h := c.now s
  cases h with
  | non => exact .base .non
  | bl b => exact .base (.bl b)
  | int i => exact .base (.int i)
  | str z => exact .base (.str z)
  | lst h _ =>
    rcases h with (h | ⟨o, h⟩) | ⟨its, n, h, _⟩
    · exact .base (.lst h)
    · exact .base (.frz h)
    · exact .kList h rfl
  | tup h _ =>
    rcases h with (h | ⟨o, h⟩) | ⟨o, _, _, h, h2, _⟩
    · exact .base (.tup h)
    · exact .fTuple h
    · exact .kTuple h h2
theorem DE.isi (ha : DE F W X a m) (hm : X.mg x = Option.none) (hm2 : X.mg y = Option.none) (hx : x = "isinstance" := by rfl) (hy : bootBuiltins y = some (.type T) := by rfl) (hg : Gl X x := by rfl) (hg2 : Gl X y := by rfl) (hny : y ≠ "__name__" := by decide) (hdy : (y == ("__debug__" : Str)) = false := by decide)
    (hse : starEach [a, .Name y p2] X.env = [(false, eval a X.env), (false, eval (.Name y p2) X.env)] := by rfl) :
    DE F W X (.Call (.Name x p) [a, .Name y p2] [] pos) (unM (isiD T) m) := by
  subst hx
  refine ⟨PE.cons (pe_callB call_isi hg hm rfl (pa_cons ha.pe (pa_cons (pe_bltn hg2 hm2 hy (show RelV (.ty T) (.type T) from rfl) hny hdy) pa_nil) (hs := hse)) (he := hse)) ?_⟩
  rintro σ H Q ⟨G, δ, e, h⟩
  refine ⟨G, δ, e, Post.mono (h.bind (Step.refl e)) fun v H1 ⟨G1, δ1, v1, s1, rv1, nw1, h1⟩ => ?_⟩
  split at h1
  · rename_i d g
    have c := rv1.get s1.e g
    have pp := OPost.of s1 h1
    unfold isiD at pp
    cases q : kitB (tyD d) T with
    | none => simp only [q] at pp; exact pp.elim
    | some b =>
      simp only [q] at pp
      exact ⟨v, .ty T, _, _, b, rfl, .ty T, c.ty s1.e.st.sub, kit_ty q, pp.v_now s1.e.st.sub (.bl b)⟩
  · exact h1.elim
end
end MP

set_option Elab.async false
set_option linter.all false
set_option maxRecDepth 100000
set_option maxHeartbeats 2000000
namespace MP
open PySem PySem.Spec PyProof.Rows L2 LamX NdefX

/-! ### storing -/
def fzR (r : Rv) (δ : Dl) : Option (Rv × Dl) :=
  match r with
  | .sl i => match δ[i]? with
    | some (.fz d) => some (.fz d, δ)
    | some (.ow l) => some (.fz (.list l), δ.set i (.fz (.list l)))
    | _ => none
  | r => some (r, δ)
/-- what slot i holds after r was stored there -/
def stS (r : Rv) : Option Sl :=
  match r with
  | .fz d => some (.fz d)
  | .ow l => some (.ow l)
  | .di l => some (.di l)
  | _ => none
section
variable {F : Fr} {K : PySem.W.Frag} {G0 H0 G H : Hp} {σ0 σ : L2.St} {δ0 δ δ' : Dl} {x : V} {r r' : Rv} {i : Nat} {s : Sl}
theorem slotAt_set_self {v : V} (h : i < σ.length) : slotAt (σ.set i (some v)) i = some v := by
  unfold NdefX.slotAt
  rw [List.getElem?_set_self h]
theorem slotAt_set_ne {o : Option V} {j : Nat} (h : j ≠ i) : slotAt (σ.set i o) j = slotAt σ j := by
  unfold NdefX.slotAt
  rw [List.getElem?_set_ne (Ne.symm h)]
theorem fzR_ok {G1 : Hp} (sb : Step F K G0 H0 σ0 δ0 G H σ δ) (h : RvOk F K G H σ δ x r) (he : fzR r δ = some (r', δ')) :
    ∃ G', Step F K G0 H0 σ0 δ0 G' H σ δ' ∧ RvOk F K G' H σ δ' x r' ∧ δ'.length = δ.length ∧ Same G G' ∧ (∀ p, G p = none → ¬ Own σ δ p → G' p = none ∧ ¬ Own σ δ' p) ∧ (∀ l, r' = .ow l → r = .ow l) := by
  cases r with
  | sl i =>
    obtain ⟨h1, h2⟩ := h
    unfold fzR at he
    cases q : δ[i]? with
    | none => simp [q] at he
    | some s =>
      have z := sb.e.sl i s q
      cases s with
      | fz d' =>
        simp [q] at he
        obtain ⟨rfl, rfl⟩ := he
        obtain ⟨v, e1, h3⟩ := z
        rw [h1] at e1; cases e1
        exact ⟨G, sb, h3, rfl, Same.refl G, fun p a c => ⟨a, c⟩, fun l z => by cases z⟩
      | ow l =>
        simp [q] at he
        obtain ⟨rfl, rfl⟩ := he
        obtain ⟨a, vs, e1, h3, h4, h5⟩ := z
        rw [h1] at e1; cases e1
        refine ⟨_, sb.frzSl q h1 h3 h4 h5, .lst (.inl (.inl upd_same)) (h5.up (Same.upd_new h4)), List.length_set, Same.upd_new h4, fun p a1 c => ⟨?_, fun o => c (own_frzSl o)⟩, fun l z => by cases z⟩
        rw [upd_ne]; exact a1
        rintro rfl
        exact c ⟨i, l, h1, q⟩
      | _ => simp [q] at he
  | _ => cases he; exact ⟨G, sb, h, rfl, Same.refl G, fun p a c => ⟨a, c⟩, fun l z => z⟩
theorem own_set {b : Addr} (h : Own (σ.set i (some x)) (δ.set i s) b) : (∃ l, s = .ow l ∧ x = .ref b) ∨ Own σ δ b := by
  obtain ⟨j, l, h1, h2⟩ := h
  rcases get_set h2 with ⟨rfl, rfl⟩ | ⟨hne, h2⟩
  · by_cases hl : j < σ.length
    · rw [slotAt_set_self hl] at h1; cases h1; exact .inl ⟨l, rfl, rfl⟩
    · unfold NdefX.slotAt at h1
      rw [List.getElem?_eq_none (by simpa using hl)] at h1; cases h1
  · rw [slotAt_set_ne hne] at h1
    exact .inr ⟨j, l, h1, h2⟩
theorem EOk.put (e : EOk F K G H σ δ) (h : SlOk F K G H (some x) s) (ho : ∀ l p, s = .ow l → x = .ref p → ¬ Own σ δ p ∧ ¬ F.po p ∧ F.np ≤ i) : EOk F K G H (σ.set i (some x)) (δ.set i s) := by
  have hl : ∀ {t}, (δ.set i s)[i]? = some t → i < σ.length := fun z => by
    have := (List.getElem?_eq_some_iff.mp z).1
    rw [List.length_set] at this
    rw [e.len]; exact this
  refine ⟨e.st, by rw [List.length_set, List.length_set]; exact e.len, fun j t hj => ?_, fun j k b l1 l2 hne h1 h2 h3 h4 => ?_, fun j b l1 h1 h2 => ?_, e.pot⟩
  · have hj0 := hj
    rcases get_set hj with ⟨rfl, rfl⟩ | ⟨hne, hj⟩
    · rw [slotAt_set_self (hl hj0)]; exact h
    · rw [slotAt_set_ne hne]; exact e.sl j t hj
  · have h20 := h2
    have h40 := h4
    rcases get_set h2 with ⟨rfl, rfl⟩ | ⟨n2, h2⟩
    · rcases get_set h4 with ⟨rfl, _⟩ | ⟨n4, h4⟩
      · exact hne rfl
      · rw [slotAt_set_self (hl h20)] at h1
        rw [slotAt_set_ne n4] at h3
        cases h1
        exact (ho _ _ rfl rfl).1 ⟨k, _, h3, h4⟩
    · rcases get_set h4 with ⟨rfl, rfl⟩ | ⟨n4, h4⟩
      · rw [slotAt_set_self (hl h40)] at h3
        rw [slotAt_set_ne n2] at h1
        cases h3
        exact (ho _ _ rfl rfl).1 ⟨j, l1, h1, by assumption⟩
      · rw [slotAt_set_ne n2] at h1
        rw [slotAt_set_ne n4] at h3
        exact e.dis j k b l1 l2 hne h1 h2 h3 h4
  · have h20 := h2
    rcases get_set h2 with ⟨rfl, rfl⟩ | ⟨n2, h2⟩
    · rw [slotAt_set_self (hl h20)] at h1
      cases h1
      obtain ⟨_, a2, a3⟩ := ho _ _ rfl rfl
      exact ⟨fun z => absurd z (by omega), fun z => absurd z a2⟩
    · rw [slotAt_set_ne n2] at h1
      exact e.po j b l1 h1 h2
theorem Step.put (sb : Step F K G0 H0 σ0 δ0 G H σ δ) (h : SlOk F K G H (some x) s) (ho : ∀ l p, s = .ow l → x = .ref p → ¬ Own σ δ p ∧ ¬ F.po p ∧ F.np ≤ i) (nw : ∀ l p, s = .ow l → x = .ref p → H0 p = none ∨ Own σ0 δ0 p) :
    Step F K G0 H0 σ0 δ0 G H (σ.set i (some x)) (δ.set i s) :=
  ⟨sb.g, sb.e.put h ho, sb.eff, sb.gn, fun b o => (own_set o).elim (fun ⟨l, e1, e2⟩ => (nw l b e1 e2).symm) (sb.new b)⟩
theorem Step.store (sb : Step F K G0 H0 σ0 δ0 G H σ δ) (h : RvOk F K G H σ δ x r) (nw : RvNew σ0 δ0 H0 x r) (hi : F.np ≤ i) (hs : stS r = some s) : Step F K G0 H0 σ0 δ0 G H (σ.set i (some x)) (δ.set i s) := by
  cases r with
  | fz d => cases hs; exact sb.put ⟨x, rfl, h⟩ (fun l p z => by cases z) (fun l p z => by cases z)
  | ow l =>
    cases hs
    obtain ⟨p, vs, rfl, h1, h2, h3, h4, h5⟩ := h
    exact sb.put ⟨p, vs, rfl, h1, h2, h3⟩ (fun l' p' z1 z2 => by cases z2; exact ⟨h4, h5, hi⟩) (fun l' p' z1 z2 => nw p' z2)
  | di l =>
    cases hs
    obtain ⟨a, kvs, rfl, h1⟩ := h
    exact sb.put ⟨a, kvs, rfl, h1⟩ (fun l p z => by cases z) (fun l p z => by cases z)
  | _ => cases hs
end
/-! ### name = e -/
def asgM (i : Nat) (m : EM) : SM := fun δ => (m δ).bind fun r δ1 => match fzR r δ1 with
  | some (r', δ2) => match stS r' with
    | some s => .ok .nx (δ2.set i s)
    | none => .bad
  | none => .bad
section
variable {F : Fr} {W : WX} {X : Cx} {pos pos' : Pos} {e : Expr} {m : EM} {i : Nat} {x : Str}
theorem SI.asg {σ : L2.St} {H : Hp} {D : Ends} (hi : F.np ≤ i) (h : SI F X.K X.mg W (asgM i m) D σ H) : tAsg (TI F X.K X.mg W m) (gName i) D σ H := by
  obtain ⟨G, δ, e, h⟩ := h
  refine ⟨G, δ, e, Post.mono (h.bindE (Step.refl e)) fun v H1 ⟨G1, δ1, v1, s1, rv1, nw1, h1⟩ => ?_⟩
  cases q : fzR v1 δ1 with
  | none => simp only [q] at h1; exact h1.elim
  | some w =>
    obtain ⟨r', δ2⟩ := w
    simp only [q] at h1
    obtain ⟨G2, s2, rv2, _, _, _, hn⟩ := fzR_ok (G1 := G1) s1 rv1 q
    cases q2 : stS r' with
    | none => simp only [q2] at h1; exact h1.elim
    | some s =>
      simp only [q2] at h1
      have nw2 : RvNew σ δ H v r' := by
        cases r' with
        | ow l => have := hn l rfl; subst this; exact nw1
        | _ => trivial
      exact h1 _ _ _ (s2.store rv2 nw2 hi q2)
theorem DS.asg (hN : X.N.Nodup) (hi : X.N[i]? = some x) (hx : Loc X.env.scope x) (hp : F.np ≤ i) (he : DE F W X e m) (hs : swapsWith e (some (.Name x pos')) pos.line X.env = pure false := by rfl) (hf : X.fn x = true ∨ X.env.scope.names.lookup x = some .local := by first | exact .inl rfl | exact .inr rfl | assumption) :
    DS F W X (.Assign [.Name x pos'] e pos) (asgM i m) := ⟨PS.cons (ps_set hN hi hx he.pe hs hf) fun D σ H h => SI.asg hp h⟩

/-! ### x, y = a, b (a display) -/
def parM (i j : Nat) (m : AM) : SM := fun δ => (m δ).bind fun rs δ1 => match rs with
  | [r1, r2] => match fzR r1 δ1 with
    | some (r1', δ2) => match fzR r2 δ2 with
      | some (r2', δ3) => match stS r1', stS r2' with
        | some s1, some s2 => .ok .nx ((δ3.set i s1).set j s2)
        | _, _ => .bad
      | none => .bad
    | none => .bad
  | _ => .bad
theorem fzR_notsl {r r' : Rv} {δ δ' : Dl} (h : fzR r δ = some (r', δ')) : ∀ k, r' ≠ .sl k := by
  intro k z
  subst z
  unfold fzR at h
  split at h
  · split at h <;> cases h
  · rename_i hn
    cases h
    exact hn k rfl
theorem RvOk.put {F : Fr} {K : PySem.W.Frag} {G H : Hp} {σ : L2.St} {δ : Dl} {v y : V} {r : Rv} {i : Nat} {s : Sl} (h : RvOk F K G H σ δ v r) (ns : ∀ k, r ≠ .sl k) (hd : ∀ l l', r = .ow l → s = .ow l' → v ≠ y) : RvOk F K G H (σ.set i (some y)) (δ.set i s) v r := by
  cases r with
  | fz d => exact h
  | ow l =>
    obtain ⟨p, vs, rfl, h1, h2, h3, h4, h5⟩ := h
    refine ⟨p, vs, rfl, h1, h2, h3, fun o => ?_, h5⟩
    rcases own_set o with ⟨l', e1, e2⟩ | o
    · exact hd l l' rfl e1 e2.symm
    · exact h4 o
  | sl k => exact absurd rfl (ns k)
  | di l => exact h
  | cl f => exact h
  | nd n => exact h
theorem stS_ow {r : Rv} {l : List D} (h : stS r = some (.ow l)) : r = .ow l := by
  unfold stS at h
  split at h <;> first | (cases h; rfl) | cases h
theorem RvOk.esc' {F : Fr} {K : PySem.W.Frag} {G G' H : Hp} {σ : L2.St} {δ δ' : Dl} {y : V} {r : Rv} (h : RvOk F K G H σ δ y r) (g : Same G G') (hl : δ'.length = δ.length) (fr : ∀ p, G p = none → ¬ Own σ δ p → G' p = none ∧ ¬ Own σ δ' p) : RvOk F K G' H σ δ' y r :=
  h.esc g hl fun l p _ _ a b => fr p a b
theorem RvsOk.two {F : Fr} {K : PySem.W.Frag} {G H H0 : Hp} {σ σ0 : L2.St} {δ δ0 : Dl} {xs : List V} {r1 r2 : Rv} (h : RvsOk F K G H σ δ xs [r1, r2]) (n : RvsNew σ0 δ0 H0 xs [r1, r2]) :
    ∃ v w, xs = [v, w] ∧ RvOk F K G H σ δ v r1 ∧ RvOk F K G H σ δ w r2 ∧ (∀ l l', r1 = .ow l → r2 = .ow l' → v ≠ w) ∧ RvNew σ0 δ0 H0 v r1 ∧ RvNew σ0 δ0 H0 w r2 := by
  cases h with
  | cons a b c =>
    cases b with
    | cons a2 b2 c2 =>
      cases b2
      cases n with
      | cons n1 n2 =>
        cases n2 with
        | cons n2 _ => exact ⟨_, _, rfl, a, a2, fun l l' z1 z2 => c l _ l' z1 (by rw [z2]; simp), n1, n2⟩
theorem DS.par {j : Nat} {y : Str} {a b : Expr} {px py pt : Pos} {kt k2 pt2} {m : AM} (hc : X.calm = true) (hN : X.N.Nodup) (hi : X.N[i]? = some x) (hj : X.N[j]? = some y) (hij : i ≠ j)
    (hx : X.env.scope.names.lookup x = some .local) (hy : X.env.scope.names.lookup y = some .local) (hp : F.np ≤ i) (hp2 : F.np ≤ j) (ha : DA F W X [a, b] m)
    (hw : swappedStores [.Tuple [.Name x px, .Name y py] kt pt] (.Tuple [a, b] k2 pt2) X.env = pure (some [x, y]))
    (hs : swapsWithSole [.Tuple [.Name x px, .Name y py] kt pt] (.Tuple [a, b] k2 pt2) pos.line X.env = pure false := by rfl) :
    DS F W X (.Assign [.Tuple [.Name x px, .Name y py] kt pt] (.Tuple [a, b] k2 pt2) pos) (parM i j m) := by
  refine ⟨PS.cons (ps_par hc hN hi hj hij hx hy ha.pa hw hs) ?_⟩
  rintro D σ H ⟨G, δ, e, h⟩
  refine ⟨G, δ, e, PostA.mono (h.bindA (Step.refl e)) fun vs H1 ⟨G1, δ1, rs, s1, rv1, nw1, h1⟩ => ?_⟩
  split at h1
  · rename_i r1 r2
    obtain ⟨v, v2, rfl, a1, a2, c1, n1, n2⟩ := rv1.two nw1
    refine ⟨v, v2, rfl, ?_⟩
    cases q : fzR r1 δ1 with
    | none => simp only [q] at h1; exact h1.elim
    | some w =>
      obtain ⟨r1', δ2⟩ := w
      simp only [q] at h1
      obtain ⟨G2, s2, rv2, l2, g2, f2, hn2⟩ := fzR_ok (G1 := G1) s1 a1 q
      have a2' := a2.esc' g2 l2 f2
      cases q3 : fzR r2 δ2 with
      | none => simp only [q3] at h1; exact h1.elim
      | some w =>
        obtain ⟨r2', δ3⟩ := w
        simp only [q3] at h1
        obtain ⟨G3, s3, rv3, l3, g3, f3, hn3⟩ := fzR_ok (G1 := G1) s2 a2' q3
        have rv2' := rv2.esc' g3 l3 f3
        cases q4 : stS r1' with
        | none => simp only [q4] at h1; exact h1.elim
        | some t1 =>
          cases q5 : stS r2' with
          | none => simp only [q4, q5] at h1; exact h1.elim
          | some t2 =>
            simp only [q4, q5] at h1
            have nw1' : RvNew σ δ H v r1' := by
              cases r1' with
              | ow l => have := hn2 l rfl; subst this; exact n1
              | _ => trivial
            have nw2' : RvNew σ δ H v2 r2' := by
              cases r2' with
              | ow l => have := hn3 l rfl; subst this; exact n2
              | _ => trivial
            have s4 := s3.store rv2' nw1' hp q4
            have rv4 : RvOk F X.K G3 H1 (σ.set i (some v)) (δ3.set i t1) v2 r2' := rv3.put (fzR_notsl q3) fun l l' z1 z2 => by
              subst z2
              have z3 := hn2 _ (stS_ow q4)
              have z4 := hn3 _ z1
              exact fun z5 => c1 _ _ z3 z4 z5.symm
            exact h1 _ _ _ (s4.store rv4 nw2' hp2 q5)
  · exact h1.elim
end
end MP

set_option Elab.async false
set_option linter.all false
set_option maxRecDepth 100000
set_option maxHeartbeats 2000000
namespace MP
open PySem PySem.Spec PyProof.Rows L2 LamX NdefX

/-! ### an own list is changed -/
section
variable {F : Fr} {K : PySem.W.Frag} {G0 H0 G H : Hp} {σ0 σ : L2.St} {δ0 δ δ' : Dl} {i : Nat} {l l' : List D} {a : Addr} {vs vs' : List V}
theorem TabsN.upd_lst {T : List NTab} {ws : List V} (t : TabsN T H) (hH : H a = some (.lst vs)) : TabsN T (upd H a (.lst ws)) := fun p hp => (t p hp).keep fun b o hb ho => by
  rw [upd_ne]; exact hb
  rintro rfl
  rw [hH] at hb
  cases hb
  rcases ho with ⟨ps, z⟩ | ⟨c, q, z⟩
  · cases z
  · unfold CodeO at z; cases z
theorem Same.upd_own {o : HO} (s : Same G H) (hG : G a = none) : Same G (upd H a o) := fun b u e => by
  rw [upd_ne (ne_of_none e hG)]; exact s _ _ e
theorem SlOk.mut {o : Option V} {s : Sl} (h : SlOk F K G H o s) (n : ∀ l, s = .ow l → o ≠ some (.ref a)) : SlOk F K G (upd H a (.lst vs')) o s := by
  cases s with
  | ow l =>
    obtain ⟨b, ws, e, h1, h2, h3⟩ := h
    exact ⟨b, ws, e, by rw [upd_ne (fun z => n l rfl (by rw [e, z]))]; exact h1, h2, h3⟩
  | _ => exact h
theorem Step.mut (sb : Step F K G0 H0 σ0 δ0 G H σ δ) (hi : δ[i]? = some (.ow l)) (ha : slotAt σ i = some (.ref a)) (hH : H a = some (.lst vs)) (hG : G a = none) (hd : DQA K G vs' l') :
    Step F K G0 H0 σ0 δ0 G (upd H a (.lst vs')) σ (δ.set i (.ow l')) := by
  have e := sb.e
  have own0 : ∀ b, Own σ (δ.set i (.ow l')) b → Own σ δ b := fun b ⟨j, m, h1, h2⟩ => by
    rcases get_set h2 with ⟨rfl, _⟩ | ⟨_, h2⟩
    · exact ⟨j, l, h1, hi⟩
    · exact ⟨j, m, h1, h2⟩
  refine ⟨sb.g, ⟨⟨Same.upd_own e.st.sub hG, TabsN.upd_lst e.st.tabs hH, e.st.notb⟩, by rw [List.length_set]; exact e.len, fun j s hj => ?_, fun j k b l1 l2 hne h1 h2 h3 h4 => ?_, fun j b l1 h1 h2 => ?_, fun b hb => ?_⟩, ⟨fun b o hb hn ht => ?_, fun b hb => ?_⟩, sb.gn, fun b o => sb.new b (own0 b o)⟩
  · rcases get_set hj with ⟨rfl, rfl⟩ | ⟨hne, hj⟩
    · exact ⟨a, vs', ha, upd_same, hG, hd⟩
    · exact (e.sl j s hj).mut fun m z1 z2 => by subst z1; exact e.dis j i a _ _ hne z2 hj ha hi
  · rcases get_set h2 with ⟨rfl, _⟩ | ⟨_, h2'⟩
    · rcases get_set h4 with ⟨rfl, _⟩ | ⟨_, h4'⟩
      · exact hne rfl
      · exact e.dis _ _ b _ _ hne h1 hi h3 h4'
    · rcases get_set h4 with ⟨rfl, _⟩ | ⟨_, h4'⟩
      · exact e.dis _ _ b _ _ hne h1 h2' h3 hi
      · exact e.dis _ _ b _ _ hne h1 h2' h3 h4'
  · rcases get_set h2 with ⟨rfl, _⟩ | ⟨_, h2⟩
    · exact e.po _ b l h1 hi
    · exact e.po _ b l1 h1 h2
  · intro z
    by_cases q : b = a
    · subst q; rw [upd_same] at z; cases z
    · rw [upd_ne q] at z; exact e.pot b hb z
  · by_cases q : b = a
    · subst q
      rcases sb.new b ⟨i, l, ha, hi⟩ with z | z
      · exact absurd z hn
      · rw [hb] at z; cases z
    · rw [upd_ne q]; exact sb.eff.keep b o hb hn ht
  · by_cases q : b = a
    · subst q; rw [upd_same] at hb; cases hb
    · rw [upd_ne q] at hb; exact sb.eff.dom b hb
end
/-- a method that changes the list: what it gives, what stands then -/
structure MutD (X : Cx) (id : String) (f : List D → List D → Option (D × List D)) : Prop where
  ex : ∃ r : V → List V → Hp → VK → Prop, MtR X id r ∧ ∀ (G H : Hp) (a : Addr) (vs xs : List V) (l ds : List D) (d : D) (l' : List D) (Q : VK), H a = some (.lst vs) → DQA X.K G vs l → DQA X.K G xs ds → f l ds = some (d, l') →
    (∀ x vs', DQ X.K G x d → DQA X.K G vs' l' → Q x (upd H a (.lst vs'))) → r (.ref a) xs H Q
def mutM (f : List D → List D → Option (D × List D)) (i : Nat) (m : AM) : EM := fun δ => match δ[i]? with
  | some (.ow _) => (m δ).bind fun rs δ1 => match escL rs δ1 with
    | some (ds, δ2) => match δ2[i]? with
      | some (.ow l) => match f l ds with
        | some (d, l') => .ok (.fz d) (δ2.set i (.ow l'))
        | none => .bad
      | _ => .bad
    | none => .bad
  | _ => .bad
section
variable {F : Fr} {W : WX} {X : Cx} {pos apos cpos p : Pos} {e : Expr} {es : List Expr} {m : AM} {i : Nat} {x name : Str} {id : String} {f : List D → List D → Option (D × List D)}
theorem TI.mut {r : V → List V → Hp → VK → Prop} (hr : ∀ (G H : Hp) (a : Addr) (vs xs : List V) (l ds : List D) (d : D) (l' : List D) (Q : VK), H a = some (.lst vs) → DQA X.K G vs l → DQA X.K G xs ds → f l ds = some (d, l') →
    (∀ x vs', DQ X.K G x d → DQA X.K G vs' l' → Q x (upd H a (.lst vs'))) → r (.ref a) xs H Q) (σ : L2.St) (H : Hp) (Q : VK) (h : TI F X.K X.mg W (mutM f i m) σ H Q) :
    ∃ v, σ[i]? = some (some v) ∧ tyV X.K "list" v H ∧ TAI F X.K X.mg W m σ H fun xs H2 => r v xs H2 Q := by
  obtain ⟨G, δ, e, h⟩ := h
  unfold mutM at h
  split at h
  · rename_i l0 hi0
    obtain ⟨a, vs0, ha, hH0, _, _⟩ := e.sl i _ hi0
    refine ⟨.ref a, slotAt_some ha, .inl ⟨rfl, vs0, .inl (.inl hH0)⟩, G, δ, e, PostA.mono (h.bindA (Step.refl e)) fun xs H1 ⟨G1, δ1, rs, s1, rv1, nw1, h1⟩ => ?_⟩
    cases q : escL rs δ1 with
    | none => simp only [q] at h1; exact h1.elim
    | some w =>
      obtain ⟨ds, δ2⟩ := w
      simp only [q] at h1
      obtain ⟨G2, s2, d2, _⟩ := escL_ok s1 rv1 nw1 q
      split at h1
      · rename_i l hi
        obtain ⟨a', vs, ha', hH, hG, hd⟩ := s2.e.sl i _ hi
        rw [ha] at ha'; cases ha'
        cases q2 : f l ds with
        | none => simp only [q2] at h1; exact h1.elim
        | some w =>
          obtain ⟨d, l'⟩ := w
          simp only [q2] at h1
          exact hr G2 H1 a vs xs l ds d l' Q hH hd d2 q2 fun x vs' hx hv => h1 x _ G2 (s2.mut hi ha hH hG hv) hx trivial
      · exact h1.elim
  · exact h.elim
theorem DE.mut (pa : PlainAttrs "list") (slot : Slot "list" name id) (hty : typeOf (.builtin id) = pure (.type "method_descriptor")) (hm : MutD X id f) (hN : X.N[i]? = some x) (ha : DA F W X (e :: es) m) (hv : Vis X.env.scope x := by first | exact Or.inl rfl | exact Or.inr (Or.inl rfl) | exact Or.inr (Or.inr rfl)) (hd : (x == ("__debug__" : Str)) = false := by decide)
    (hcd : (x == ("__classdict__" : Str)) = false := by decide)
    (hbase : attributeBase (.Name x p) name X.env (eval (.Name x p) X.env) = eval (.Name x p) X.env := by rfl)
    (hfew : ((backTo cpos (starEach (e :: es) X.env)).all (fun x => !x.1) && (backToKw cpos (keywordEach [] X.env)).all (fun x => x.1.isSome)
      && decide ((e :: es).length + ([] : List Keyword).length + (if ([] : List Keyword).isEmpty then 0 else 1) < 30)) = true := by rfl)
    (hline : (apos.endLine == cpos.line) = true := by rfl) (hs : starEach (e :: es) X.env = (false, eval e X.env) :: starEach es X.env := by rfl) (hplain : (backTo cpos (starEach es X.env)).any (·.1) = false := by rfl) :
    DE F W X (.Call (.Attribute (.Name x p) name apos) (e :: es) [] cpos) (mutM f i m) := by
  obtain ⟨r, h1, h2⟩ := hm.ex
  exact ⟨PE.cons (pe_bm pa slot hty h1 (pe_var hN hv hd hcd) ha.pa hbase hfew hline hs hplain) (TI.mut h2)⟩
def appendD (l ds : List D) : Option (D × List D) := match ds with
  | [d] => if l.length < line then some (.none, l ++ [d]) else none
  | _ => none
def popD (l ds : List D) : Option (D × List D) := match ds with
  | [.int i] => match seqIndex? i l.length with
    | some k => match l[k]? with
      | some d => if l.length ≤ line then some (d, l.eraseIdx k) else none
      | none => none
    | none => none
  | _ => none
def extendD (l ds : List D) : Option (D × List D) := match ds with
  | [.list m] => if l.length + m.length ≤ line then some (.none, l ++ m) else none
  | _ => none
theorem mu_append : MutD X "list.append" appendD := ⟨_, mt_append, fun G H a vs xs l ds d l' Q hH hl hx hf hq => by
  unfold appendD at hf
  split at hf
  · rename_i d0
    split at hf
    · rename_i hz
      cases hf
      cases hx with
      | cons x1 x2 =>
        cases x2
        exact ⟨a, vs, _, rfl, rfl, hH, by rw [hl.len, ← line_eq]; exact hz, hq _ _ .non (hl.snoc x1)⟩
    · cases hf
  · cases hf⟩
theorem seqIndex_bound {i : Int} {n k : Nat} (h : seqIndex? i n = some k) : -(n : Int) ≤ i ∧ i < n := by
  unfold seqIndex? at h
  split at h <;> simp_all <;> omega
theorem mu_pop : MutD X "list.pop" popD := ⟨_, mt_popAt, fun G H a vs xs l ds d l' Q hH hl hx hf hq => by
  unfold popD at hf
  split at hf
  · rename_i i
    split at hf
    · rename_i k hk
      split at hf
      · rename_i d0 hd
        split at hf
        · rename_i hz
          cases hf
          cases hx with
          | cons x1 x2 =>
            cases x2
            cases x1
            obtain ⟨v, e1, e2⟩ := hl.at' hd
            obtain ⟨b1, b2⟩ := seqIndex_bound hk
            unfold line at hz
            exact ⟨a, vs, i, k, v, rfl, rfl, hH, by omega, by omega, by rw [hl.len]; exact hk, e1, hq _ _ e2 (hl.erase k)⟩
        · cases hf
      · cases hf
    · cases hf
  · cases hf⟩
end
end MP

set_option Elab.async false
set_option linter.all false
set_option maxRecDepth 100000
set_option maxHeartbeats 2000000
namespace MP
open PySem PySem.Spec PyProof.Rows L2 LamX NdefX

/-! ### targets -/
abbrev GM := D → Dl → Option Dl
/-- σ' is σ but at the slots js -/
def Off (js : List Nat) (σ σ' : L2.St) : Prop := σ'.length = σ.length ∧ ∀ j, j ∉ js → σ'[j]? = σ[j]?
theorem Off.refl (js : List Nat) (σ : L2.St) : Off js σ σ := ⟨rfl, fun _ _ => rfl⟩
theorem Off.set {σ : L2.St} {i : Nat} {o : Option V} : Off [i] σ (σ.set i o) := ⟨List.length_set, fun j hj => List.getElem?_set_ne (fun z => hj (by rw [z]; exact List.mem_cons_self))⟩
theorem Off.app {js ks : List Nat} {σ σ1 σ2 : L2.St} (a : Off js σ σ1) (b : Off ks σ1 σ2) : Off (js ++ ks) σ σ2 :=
  ⟨b.1.trans a.1, fun j hj => (b.2 j fun z => hj (List.mem_append_right _ z)).trans (a.2 j fun z => hj (List.mem_append_left _ z))⟩
def PostG (F : Fr) (K : PySem.W.Frag) (js : List Nat) (G H : Hp) (σ : L2.St) (δ : Dl) (Q : L2.St → Hp → Prop) : Option Dl → Prop
  | some δ' => ∀ σ' H' G', Off js σ σ' → Step F K G H σ δ G' H' σ' δ' → Q σ' H'
  | none => False
def TGI (F : Fr) (K : PySem.W.Frag) (js : List Nat) (g : GM) : TG := fun v σ H Q => ∃ G δ d, EOk F K G H σ δ ∧ DQ K G v d ∧ PostG F K js G H σ δ Q (g d δ)
def TGSI (F : Fr) (K : PySem.W.Frag) (js : List Nat) (g : List D → Dl → Option Dl) : TGs := fun vs σ H Q => ∃ G δ ds, EOk F K G H σ δ ∧ DQA K G vs ds ∧ PostG F K js G H σ δ Q (g ds δ)
structure DG (F : Fr) (X : Cx) (tg : Expr) (js : List Nat) (g : GM) : Prop where
  pg : PG X tg (TGI F X.K js g)
structure DGs (F : Fr) (X : Cx) (tg : List Expr) (js : List Nat) (g : List D → Dl → Option Dl) : Prop where
  pg : PGs X tg (TGSI F X.K js g)
theorem PG.cons {X : Cx} {e : Expr} {t t' : TG} (h : PG X e t) (i : ∀ v σ H Q, t' v σ H Q → t v σ H Q) : PG X e t' := ⟨fun pins s σ H v u Q I r q => h.run pins s σ H v u Q I r (i _ _ _ _ q)⟩
theorem PGs.cons {X : Cx} {e : List Expr} {t t' : TGs} (h : PGs X e t) (i : ∀ v σ H Q, t' v σ H Q → t v σ H Q) : PGs X e t' := ⟨fun pins s σ H v u Q I r q => h.run pins s σ H v u Q I r (i _ _ _ _ q)⟩
theorem PostG.later {F : Fr} {K : PySem.W.Frag} {js ks : List Nat} {G H G1 H1 : Hp} {σ σ1 : L2.St} {δ δ1 : Dl} {Q : L2.St → Hp → Prop} {o : Option Dl} (h : PostG F K (js ++ ks) G H σ δ Q o) (f : Off js σ σ1) (s : Step F K G H σ δ G1 H1 σ1 δ1) : PostG F K ks G1 H1 σ1 δ1 Q o := by
  cases o with
  | none => exact h
  | some δ' => exact fun σ' H' G' f2 t => h σ' H' G' (f.app f2) (s.trans t)
def nameG (i : Nat) : GM := fun d δ => some (δ.set i (.fz d))
def nilG : List D → Dl → Option Dl := fun ds δ => match ds with
  | [] => some δ
  | _ => none
def consG (g : GM) (gs : List D → Dl → Option Dl) : List D → Dl → Option Dl := fun ds δ => match ds with
  | d :: ds => (g d δ).bind (gs ds)
  | [] => none
def tupG (n : Nat) (gs : List D → Dl → Option Dl) : GM := fun d δ => match d with
  | .tuple ds => if ds.length = n then gs ds δ else none
  | _ => none
def subG (i : Nat) (m : EM) : GM := fun d δ => match δ[i]? with
  | some (.ow _) => match m δ with
    | .ok r δ1 => match r.get δ1 with
      | some (.int k) => match δ1[i]? with
        | some (.ow l) => match ixN l.length k with
          | some j => some (δ1.set i (.ow (l.set j d)))
          | none => none
        | _ => none
      | _ => none
    | _ => none
  | _ => none
section
variable {F : Fr} {W : WX} {X : Cx} {pos pos' : Pos} {i : Nat} {x : Str}
theorem DG.name (hN : X.N.Nodup) (hi : X.N[i]? = some x) (hx : Loc X.env.scope x) (hp : F.np ≤ i) (hf : X.fn x = true ∨ X.env.scope.names.lookup x = some .local := by first | exact .inl rfl | exact .inr rfl | assumption) : DG F X (.Name x pos) [i] (nameG i) := by
  refine ⟨PG.cons (pg_name hN hi hx hf) ?_⟩
  rintro v σ H Q ⟨G, δ, d, e, hd, h⟩
  exact h _ _ _ Off.set ((Step.refl e).store (r := .fz d) hd trivial hp rfl)
theorem DGs.nil : DGs F X [] [] nilG := by
  refine ⟨PGs.cons pgs_nil ?_⟩
  rintro v σ H Q ⟨G, δ, ds, e, hd, h⟩
  cases hd with
  | nil => exact ⟨rfl, h _ _ _ (Off.refl _ _) (Step.refl e)⟩
  | cons _ _ => exact h.elim
theorem DGs.cons {a : Expr} {es : List Expr} {js ks : List Nat} {g : GM} {gs : List D → Dl → Option Dl} (ha : DG F X a js g) (hr : DGs F X es ks gs) (hs : (assignEach (a :: es) X.env).map (·.2) = assign a X.env :: (assignEach es X.env).map (·.2) := by rfl) : DGs F X (a :: es) (js ++ ks) (consG g gs) := by
  refine ⟨PGs.cons (pgs_cons ha.pg hr.pg hs) ?_⟩
  rintro v σ H Q ⟨G, δ, ds, e, hd, h⟩
  cases hd with
  | nil => exact h.elim
  | cons h1 h2 =>
    rename_i v vs d ds
    refine ⟨v, vs, rfl, G, δ, d, e, h1, ?_⟩
    have h' : PostG F X.K (js ++ ks) G H σ δ Q ((g d δ).bind (gs ds)) := h
    cases q : g d δ with
    | none => rw [q] at h'; exact h'.elim
    | some δ1 =>
      rw [q] at h'
      exact fun σ' H' G' f s => ⟨G', δ1, ds, s.e, h2.up s.g, h'.later f s⟩
theorem DG.tup {es : List Expr} {k n : Nat} {js : List Nat} {gs : List D → Dl → Option Dl} (hc : X.calm = true) (h : DGs F X es js gs)
    (hn : (assignEach es X.env).length = n := by rfl) (hst : (assignEach es X.env).findIdx? (·.1) = none := by rfl) : DG F X (.Tuple es k pos) js (tupG n gs) := by
  refine ⟨PG.cons (pg_tup hc h.pg hn hst) ?_⟩
  rintro v σ H Q ⟨G, δ, d, e, hd, h⟩
  cases d <;> first | exact h.elim | skip
  rename_i ds
  have h' : PostG F X.K js G H σ δ Q (if ds.length = n then gs ds δ else none) := h
  split at h'
  · rename_i hl
    cases hd with
    | tup h1 h2 => exact ⟨_, _, rfl, Same.seqT e.st.sub h1, by rw [h2.len]; exact hl, G, δ, ds, e, h2, h'⟩
  · exact h'.elim
theorem DG.sub {a : Expr} {m : EM} (hN : X.N[i]? = some x) (ha : DE F W X a m) (hv : Vis X.env.scope x := by first | exact Or.inl rfl | exact Or.inr (Or.inl rfl) | exact Or.inr (Or.inr rfl)) (hd : (x == ("__debug__" : Str)) = false := by decide) (hcd : (x == ("__classdict__" : Str)) = false := by decide)
    (hq : ∀ v, assign (.Subscript (.Name x pos') a pos) X.env v = (do
      let ov ← holding [v] (eval (.Name x pos') X.env)
      let iv ← holding [v, ov] (eval a X.env)
      standAt pos
      holding [v, ov, iv] (setItem ov iv v)
      release [v, ov, iv] []) := by intro _; rfl) : DG F X (.Subscript (.Name x pos') a pos) [] (subG i m) := by
  refine ⟨PG.cons (pg_sub (pe_var hN hv hd hcd) ha.pe set_list hq) ?_⟩
  rintro v σ H Q ⟨G, δ, d, e, hd, h⟩
  unfold subG at h
  split at h
  · rename_i l0 hi0
    obtain ⟨b, vs0, hb, hH0, _, _⟩ := e.sl i _ hi0
    refine ⟨.ref b, slotAt_some hb, G, δ, e, ?_⟩
    cases q : m δ with
    | bad => simp only [q] at h; exact h.elim
    | exc ex δ1 => simp only [q] at h; exact h.elim
    | ok r δ1 =>
      simp only [q] at h
      intro y H1 G1 s1 rv nw
      split at h
      · rename_i k hk
        split at h
        · rename_i l hi
          split at h
          · rename_i j hj
            obtain ⟨b', vs, hb', hH, hG, hdl⟩ := s1.e.sl i _ hi
            rw [hb] at hb'; cases hb'
            have ey := (rv.get s1.e hk).of_int
            exact ⟨b, vs, k, j, rfl, ey, hH, by rw [hdl.len]; exact hj, h _ _ _ (Off.refl _ _) (s1.mut hi hb hH hG (hdl.set j (hd.up s1.g)))⟩
          · exact h.elim
        · exact h.elim
      · exact h.elim
  · exact h.elim
/-! ### target = e -/
def asgTM (g : GM) (m : EM) : SM := fun δ => (m δ).bind fun r δ1 => match esc1 r δ1 with
  | some (d, δ2) => match g d δ2 with
    | some δ3 => .ok .nx δ3
    | none => .bad
  | none => .bad
theorem DS.asgT {tg a : Expr} {js : List Nat} {g : GM} {m : EM} (ha : DE F W X a m) (hg : DG F X tg js g) (hs : swapsWithSole [tg] a pos.line X.env = pure false := by rfl) (hw : swappedStores [tg] a X.env = pure none := by rfl)
    (h1 : (assignEach [tg] X.env).map (·.2) = [assign tg X.env] := by rfl) : DS F W X (.Assign [tg] a pos) (asgTM g m) := by
  refine ⟨PS.cons (ps_asg ha.pe hg.pg hs hw h1) ?_⟩
  rintro D σ H ⟨G, δ, e, h⟩
  refine ⟨G, δ, e, Post.mono (h.bindE (Step.refl e)) fun v H1 ⟨G1, δ1, v1, s1, rv1, nw1, h1⟩ => ?_⟩
  cases q : esc1 v1 δ1 with
  | none => simp only [q] at h1; exact h1.elim
  | some w =>
    obtain ⟨d, δ2⟩ := w
    simp only [q] at h1
    obtain ⟨G2, s2, h2, _⟩ := esc1_ok s1 rv1 nw1 q
    refine ⟨G2, δ2, d, s2.e, h2, ?_⟩
    cases q2 : g d δ2 with
    | none => simp only [q2] at h1; exact h1.elim
    | some δ3 =>
      simp only [q2] at h1
      exact fun σ' H' G' _ s3 => h1 σ' H' G' (s2.trans s3)
/-! ### x op= e -/
def augM (f : D → D → ORes) (i : Nat) (m : EM) : SM := fun δ => match δ[i]? with
  | some (.fz d) => (m δ).bind fun r δ1 => match r.get δ1 with
    | some e => match f d e with
      | .v c => .ok .nx (δ1.set i (.fz c))
      | _ => .bad
    | none => .bad
  | _ => .bad
theorem op_iaddD : OpD X (inplaceOp .Add) (fun d e => match d, e with | .int i, .int j => .v (.int (i + j)) | _, _ => .bad) := ⟨_, iop_add, fun G H x y d e Q s c1 c2 p => by
  cases d <;> cases e <;> first | exact p.elim | skip
  exact ⟨_, _, c1.of_int, c2.of_int, p.v_now s (.int _)⟩⟩
theorem op_isubD : OpD X (inplaceOp .Sub) (fun d e => match d, e with | .int i, .int j => .v (.int (i - j)) | _, _ => .bad) := ⟨_, iop_sub, fun G H x y d e Q s c1 c2 p => by
  cases d <;> cases e <;> first | exact p.elim | skip
  exact ⟨_, _, c1.of_int, c2.of_int, p.v_now s (.int _)⟩⟩
theorem DS.aug {a : Expr} {op : Operator} {f : D → D → ORes} {m : EM} (ho : OpD X (inplaceOp op) f) (hN : X.N.Nodup) (hi : X.N[i]? = some x) (hx : Loc X.env.scope x) (hp : F.np ≤ i) (ha : DE F W X a m) (hf : X.fn x = true ∨ X.env.scope.names.lookup x = some .local := by first | exact .inl rfl | exact .inr rfl | assumption) :
    DS F W X (.AugAssign (.Name x pos') op a pos) (augM f i m) := by
  obtain ⟨r, o1, o2⟩ := ho.ex
  have hpip : PIp X op r := o1
  refine ⟨PS.cons (ps_aug hN hi hx ha.pe hpip hf) ?_⟩
  rintro D σ H ⟨G, δ, e, h⟩
  unfold augM at h
  split at h
  · rename_i d hd
    obtain ⟨v, e1, h1⟩ := e.sl i _ hd
    refine ⟨v, slotAt_some e1, G, δ, e, Post.mono (h.bindE (Step.refl e)) fun y H1 ⟨G1, δ1, v1, s1, rv1, nw1, h2⟩ => ?_⟩
    split at h2
    · rename_i e2 g2
      refine o2 G1 H1 v y d e2 _ s1.e.st.sub (.inl (h1.up s1.g)) (rv1.get s1.e g2) ?_
      cases q : f d e2 with
      | v c =>
        simp only [q] at h2
        exact fun z H2 G2 w hz => h2 _ _ _ ((s1.trans (Step.grow w s1.e)).store (r := .fz c) hz trivial hp rfl)
      | nl l => simp only [q] at h2; exact h2.elim
      | bad => simp only [q] at h2; exact h2.elim
    · exact h2.elim
  · exact h.elim
/-! ### statements -/
def nxM : SM := fun δ => .ok .nx δ
def seqM (a b : SM) : SM := fun δ => match a δ with
  | .ok .nx δ1 => b δ1
  | r => r
def exprM (m : EM) : SM := fun δ => (m δ).bind fun _ δ1 => .ok .nx δ1
def retM (m : EM) : SM := fun δ => (m δ).bind fun r δ1 => .ok (.rt r) δ1
def retN : SM := fun δ => .ok (.rt (.fz .none)) δ
def ifM (t : TM) (a b : SM) : SM := fun δ => (t δ).bind fun x δ1 => if x then a δ1 else b δ1
variable {st : Stmt} {sts : List Stmt} {ma mb : SM} {a c : Expr} {m : EM} {t : TM}
theorem DS.pass : DS F W X (.Pass pos) nxM := ⟨PS.cons ps_pass fun D σ H ⟨G, δ, e, h⟩ => h σ H G (Step.refl e)⟩
def ctM : SM := fun δ => .ok .ct δ
theorem DS.cont : DS F W X (.Continue pos) ctM := ⟨PS.cons ps_continue fun D σ H ⟨G, δ, e, h⟩ => h σ H G (Step.refl e)⟩
theorem DSs.nil : DSs F W X [] nxM := ⟨PSs.cons pss_nil fun D σ H ⟨G, δ, e, h⟩ => h σ H G (Step.refl e)⟩
theorem DSs.one (h : DS F W X st ma) : DSs F W X [st] ma := ⟨pss_one h.ps⟩
theorem PostS.seq {K : PySem.W.Frag} {mg : Str → Option Value} {G H : Hp} {σ : L2.St} {δ : Dl} {D : Ends} (h : PostS F K mg W G H σ δ D (seqM ma mb δ)) : PostS F K mg W G H σ δ { D with nx := SI F K mg W mb D } (ma δ) := by
  unfold seqM at h
  cases q : ma δ with
  | bad => simp only [q] at h; exact h
  | exc e δ1 => simp only [q] at h; exact h
  | ok f δ1 =>
    simp only [q] at h
    cases f with
    | nx => exact fun σ' H' G' s => ⟨G', δ1, s.e, h.later s⟩
    | bk => exact h
    | ct => exact h
    | rt r => exact h
theorem DSs.cons (h1 : DS F W X st ma) (h2 : DSs F W X sts mb) : DSs F W X (st :: sts) (seqM ma mb) := by
  refine ⟨PSs.cons (pss_cons h1.ps h2.ps) ?_⟩
  rintro D σ H ⟨G, δ, e, h⟩
  exact ⟨G, δ, e, h.seq⟩
theorem DS.expr (ha : DE F W X a m) (hs : swapsWith a none pos.line X.env = pure false := by rfl) : DS F W X (.Expr a pos) (exprM m) := by
  refine ⟨PS.cons (ps_expr ha.pe hs) ?_⟩
  rintro D σ H ⟨G, δ, e, h⟩
  refine ⟨G, δ, e, Post.mono (h.bindE (Step.refl e)) fun v H1 ⟨G1, δ1, v1, s1, rv1, nw1, h1⟩ => h1 σ H1 G1 s1⟩
theorem DS.ret (ha : DE F W X a m) : DS F W X (.Return (some a) pos) (retM m) := by
  refine ⟨PS.cons (ps_ret ha.pe) ?_⟩
  rintro D σ H ⟨G, δ, e, h⟩
  refine ⟨G, δ, e, Post.mono (h.bindE (Step.refl e)) fun v H1 ⟨G1, δ1, v1, s1, rv1, nw1, h1⟩ => h1 σ H1 G1 s1 v rv1 nw1⟩
theorem DS.retN : DS F W X (.Return none pos) retN := ⟨PS.cons ps_retN fun D σ H ⟨G, δ, e, h⟩ => h σ H G (Step.refl e) .non .non trivial⟩
theorem DS.if {as bs : List Stmt} (hc : DT F W X c t) (ha : DSs F W X as ma) (hb : DSs F W X bs mb) : DS F W X (.If c as bs pos) (ifM t ma mb) := by
  refine ⟨PS.cons (ps_if hc.pt ha.ps hb.ps) ?_⟩
  rintro D σ H ⟨G, δ, e, h⟩
  refine ⟨G, δ, e, PostT.mono (h.bindT (Step.refl e)) fun x H1 ⟨G1, δ1, s1, h1⟩ => ?_⟩
  cases x with
  | true => exact ⟨G1, δ1, s1.e, PostS.later (show PostS F X.K X.mg W G H σ δ D (ma δ1) from h1) s1⟩
  | false => exact ⟨G1, δ1, s1.e, PostS.later (show PostS F X.K X.mg W G H σ δ D (mb δ1) from h1) s1⟩
/-! ### while, by a number of turns that is enough -/
def whileM (t : TM) (b : SM) : Nat → SM
  | 0 => fun _ => .bad
  | n + 1 => fun δ => (t δ).bind fun x δ1 => if x then (match b δ1 with
      | .ok .nx δ2 => whileM t b n δ2
      | .ok .ct δ2 => whileM t b n δ2
      | .ok .bk δ2 => .ok .nx δ2
      | r => r) else .ok .nx δ1
theorem DS.while {bs : List Stmt} (n : Nat) (hp : PassesOwn (model X.prog X.w) X.A X.env X.xe) (hc : DT F W X c t) (hb : DSs F W X bs mb) : DS F W X (.While c bs [] pos) (whileM t mb n) := by
  refine ⟨PS.cons (ps_while hp hc.pt hb.ps) ?_⟩
  rintro D σ H ⟨G, δ, e, h⟩
  refine ⟨fun m σ' H' => ∃ G' δ', EOk F X.K G' H' σ' δ' ∧ PostS F X.K X.mg W G' H' σ' δ' D (whileM t mb m δ'), ⟨n, G, δ, e, h⟩, ?_⟩
  rintro m σ1 H1 ⟨G1, δ1, e1, h1⟩
  cases m with
  | zero => exact h1.elim
  | succ m =>
    refine ⟨G1, δ1, e1, PostT.mono (PostS.bindT h1 (Step.refl e1)) fun x H2 ⟨G2, δ2, s2, h2⟩ => ?_⟩
    cases x with
    | false => exact h2 σ1 H2 G2 s2
    | true =>
      refine ⟨fun σ' H' => ∃ m', m' < m + 1 ∧ ∃ G' δ', EOk F X.K G' H' σ' δ' ∧ PostS F X.K X.mg W G' H' σ' δ' D (whileM t mb m' δ'), fun σ' H' z => z, G2, δ2, s2.e, ?_⟩
      have h3 := PostS.later h2 s2
      simp only [if_true] at h3
      cases q : mb δ2 with
      | bad => simp only [q] at h3; exact h3
      | exc ex δ3 => simp only [q] at h3; exact h3
      | ok f δ3 =>
        simp only [q] at h3
        cases f with
        | nx => exact fun σ' H' G' s => ⟨m, Nat.lt_succ_self _, G', δ3, s.e, h3.later s⟩
        | ct => exact fun σ' H' G' s => ⟨m, Nat.lt_succ_self _, G', δ3, s.e, h3.later s⟩
        | bk => exact h3
        | rt r => exact h3
end
end MP

set_option Elab.async false
set_option linter.all false
set_option maxRecDepth 100000
set_option maxHeartbeats 2000000
namespace PySem
open Sem (wp)
open AutoSeq1 (wpAny_loadPart')
theorem meets_enumerate_newT (l : Addr) (items : Array Value) (n : Nat) (dct : Option Addr) (sl : Array (Option Value)) :
    Meets (Builtin.«enumerate.__new__» ⟨[.type "enumerate", .ref l], []⟩) (fun _ R s => s.heap.get? l = some { cls := .type "tuple", dict := dct, data := .seq items n, slots := sl } ∧
      R (.ok (.ret (.ref (s.heap.push { cls := .type "tuple_iterator", data := .fields #[.ref l, .int 0 0] }).objs.size)))
        { s with heap := (s.heap.push { cls := .type "tuple_iterator", data := .fields #[.ref l, .int 0 0] }).push { cls := .type "enumerate", data := .fields #[.none, .bool false, .ref s.heap.objs.size, rawInt 0, .none, .none] } }) :=
  .of_wp fun prog w A R s h => by
    obtain ⟨hp, g, d, tk, os⟩ := s; obtain ⟨hl, h⟩ := h
    have hsub := sub_enumerate
    have hL : Heap.IsTuple (Shared.heap ⟨hp, g, d, tk, os⟩) l items := ⟨_, hl, rfl, n, rfl⟩
    wp_walk using wpAny_loadPart' hl
    refine wpAny_stack_any fun st => wpAny_pure ?_
    split
    · rename_i c _ _ _ _ _
      cases (c == Value.type "enumerate")
      · wp_walk using wpAny_loadPart' hl, wpAny_pyIter_tuple hL
        exact ⟨_, rfl, h⟩
      · wp_walk using wpAny_loadPart' hl, wpAny_pyIter_tuple hL
        exact ⟨_, rfl, h⟩
    · wp_walk using wpAny_loadPart' hl, wpAny_pyIter_tuple hL
      exact ⟨_, rfl, h⟩
section
variable {prog : Program} {w : World} {A : Around} {E : Value → Shared → Prop} {s : Shared}
theorem call_enumerate_tup {l : Addr} {items : Array Value} {Q : Value → Shared → Prop} (hL : s.heap.IsTuple l items)
    (h : ∀ h', IsEnum h' (s.heap.objs.size + 1) s.heap.objs.size 0 .none → h'.IsTupleIter s.heap.objs.size l 0 → h'.objs.size = s.heap.objs.size + 2 →
      (∀ b o, s.heap.get? b = some o → h'.get? b = some o) → Q (.ref (s.heap.objs.size + 1)) { s with heap := h' }) :
    wpAny (model prog w) A (call (.type "enumerate") [.ref l]) Q E s := by
  obtain ⟨⟨c, dct, dt, sl⟩, hl, hc, n, hd⟩ := hL
  replace hc : c = .type "tuple" := hc
  replace hd : dt = .seq items n := hd
  subst hc hd
  refine callType_new F.called_enumerate (by decide) (F.typeCall_enumerate_1 _) (F.newCall_enumerate_1 _) (fun obj => F.args_object_init_2 obj _) F.entry_enumerate_new
    (meets_enumerate_newT l items n dct sl) ⟨hl, ?_⟩
  have hz : (s.heap.push { cls := .type "tuple_iterator", data := .fields #[.ref l, .int 0 0] }).objs.size = s.heap.objs.size + 1 := Heap.size_push ..
  show _ ∧ _
  rw [hz]
  have he : IsEnum ((s.heap.push { cls := .type "tuple_iterator", data := .fields #[.ref l, .int 0 0] }).push
      { cls := .type "enumerate", data := .fields #[.none, .bool false, .ref s.heap.objs.size, rawInt 0, .none, .none] }) (s.heap.objs.size + 1) s.heap.objs.size 0 .none := by
    have := Heap.get?_push_size (s.heap.push { cls := .type "tuple_iterator", data := .fields #[.ref l, .int 0 0] })
      (o := { cls := .type "enumerate", data := .fields #[.none, .bool false, .ref s.heap.objs.size, rawInt 0, .none, .none] }) rfl
    rw [hz] at this; exact this
  refine ⟨⟨_, he, rfl⟩, h _ he ⟨_, Heap.get?_push_of_some _ (Heap.get?_push_size _ rfl), rfl, rfl⟩ (by rw [Heap.size_push, hz]) fun b o x => Heap.get?_push_of_some _ (Heap.get?_push_of_some _ x)⟩
end
end PySem
namespace L2
open PySem PySem.Spec PyProof.Rows
def IteT (K : PySem.W.Frag) (a : Addr) : It :=
  ⟨fun i H => ∃ (xs : List V) (x : V), SqT K H a xs ∧ xs[i]? = some x, fun i H v H' => ∃ T x, v = .ref T ∧ H T = none ∧ H' = upd H T (.tup [.int (i : Nat), x]) ∧ ∀ xs, SqT K H a xs → xs[i]? = some x, fun i H => ∃ xs : List V, SqT K H a xs ∧ xs.length ≤ i⟩
theorem turn_enumT {P : Program} {w : World} {K : PySem.W.Frag} {elts : List Expr} {kk : Nat} {tpos : Pos} (a e it : Addr) (hai : a ≠ it) :
    Turn P w K (.Tuple elts kk tpos) (IteT K a) [e, it] e (fun i h => (∃ old, IsEnum h e it ((i : Nat) : Int) old) ∧ h.IsTupleIter it a i ∧ e ≠ it ∧ a ≠ e) where
  mem := by simp
  obj := fun i h st b hb => by
    obtain ⟨⟨old, he⟩, ⟨o, ho, hc, hd⟩, _⟩ := st
    have e' : b = e ∨ b = it := by simpa using hb
    rcases e' with z | z
    · rw [z]; exact ⟨_, he, fun v q => nomatch q⟩
    · rw [z]; exact ⟨o, ho, fun v q => by rw [hd] at q; cases q⟩
  keep := fun i h h' st k => let ⟨⟨old, he⟩, hi, hne⟩ := st; ⟨⟨old, k e (by simp) _ he⟩, hi.at fun o q => k it (by simp) o q, hne⟩
  item := by
    intro X hP hw hK hc i pins s σ H E I hf st hg
    subst hP hw hK
    obtain ⟨⟨old, he⟩, hit, hne, hae⟩ := st
    obtain ⟨xs, x, hq, hx⟩ := hg
    obtain ⟨its, rv, p, hz⟩ := I.tuple hq
    obtain ⟨u, hu, ru⟩ := rv.get hx
    have hel : e < s.heap.objs.size := Heap.lt_size he
    have hil : it < s.heap.objs.size := by obtain ⟨_, q, _⟩ := hit; exact Heap.lt_size q
    have hu' : its.toArray[i]? = some u := by simpa using hu
    refine wpAny_pyNext_enum_itemD (Draws.tuple (A := X.A.in1) (I.ok.hd hc) it a hai its.toArray) he ⟨hit, p⟩ (Array.getElem?_eq_some_iff.mp hu').1 hne (by simp [hne, Ne.symm hae]) fun x' h' tk hP' ho hit' hT hsz hk => ?_
    rw [hu'] at hP'
    cases hP'
    refine ⟨_, rfl, wpAny_letOwnedTupleGo_enum (s := { s with heap := h', toks := tk + 1 }) ho fun h'' he' sb => ?_⟩
    have hT2 : h''.get? s.heap.objs.size = some { cls := .type "tuple", data := .seq #[.int i tk, u] } := (sb.2 _ (Nat.ne_of_gt hel)).trans hT
    have new : ObjOk X.prog X.w (upd H s.heap.objs.size (.tup [.int (i : Nat), x])) h'' s.heap.objs.size (.tup [.int (i : Nat), x]) :=
      ⟨by show 2 ≤ sizeLine; decide, [.int i tk, u], .cons ⟨_, rfl⟩ (.cons ru .nil), ⟨_, hT2, rfl, _, rfl⟩⟩
    have I1 : Inv X pins σ (upd H s.heap.objs.size (.tup [.int (i : Nat), x])) { s with heap := h'', toks := tk + 1 } :=
      I.turnedNew (ch := [e, it]) (fun b ob hb q => (sb.2 b (fun z => hb (by simp [z]))).trans (hk b ob (fun z => hb (by simp [z])) (fun z => hb (by simp [z])) q)) hf (Nat.le_refl _) new
    refine ⟨.ref s.heap.objs.size, _, I1, rfl, ⟨_, x, rfl, I.hok.fresh (Nat.le_refl _), rfl, fun ys hy => by rw [I.tuple_inj hy hq]; exact hx⟩, ⟨⟨u, ?_⟩, hit'.1.at fun o q => (sb.2 it (Ne.symm hne)).trans q, hne, hae⟩, fun b hb => ?_⟩
    · have e1 : ((i + 1 : Nat) : Int) = (i : Int) + 1 := by omega
      rw [e1]; exact he'
    · have hb' : b < s.heap.objs.size := by
        have e' : b = e ∨ b = it := by simpa using hb
        rcases e' with z | z
        · rw [z]; exact hel
        · rw [z]; exact hil
      rw [upd_ne (Nat.ne_of_lt hb')]
      exact (hf b hb).1
  done := by
    intro X hP hw hK hc i pins s σ H E I hf st hg
    subst hP hw hK
    obtain ⟨⟨old, he⟩, hit, hne, hae⟩ := st
    obtain ⟨xs, hq, hx⟩ := hg
    obtain ⟨its, rv, p, hz⟩ := I.tuple hq
    obtain ⟨f0, f1, f2, f3, f4, f5⟩ := hf it (by simp)
    have hl := rv.length
    have hT : s.TypeIs (.ref e) "enumerate" := ⟨_, he, rfl⟩
    unfold pyNext
    refine wpAny_bind (wpAny_attempt (wpAny_callSpecial?_slot (name := Str.ofString "__next__") hT F.slot_enumerate_next
      (wpAny_call_entry F.slot_enumerate_next hT F.entry_enumerate_next ?_ (F.args_enumerate_next_1 _))))
    show wpAny _ _ (field (.ref e) 2 >>= _) _ _ _
    refine wpAny_bind (wpAny_field he rfl (x := .ref it) rfl ?_)
    refine wpAny_bind (wpAny_nextOf_tuple_end (I.ok.hd hc) hit p (by simp; omega) fun h' x he' hx' => ?_)
    obtain ⟨o, ho, hc'⟩ := hx'
    refine wpAny_bind (wpAny_isInstance (T := "StopIteration") (b := true) ⟨o, ho, hc'⟩ isSubtype_stop ?_)
    exact wpAny_pure ⟨rfl, I.turned (t' := s.toks) (fun b o hb q => he' b o hb q) f0 f1 f3 f4 f5⟩
  self := fun A i s Q E st h => let ⟨⟨_, he⟩, _⟩ := st; wpAny_pyIter_enum he h
def iEnumA (K : PySem.W.Frag) (ta : TA) : TI := fun σ H R => ta σ H fun vs H1 => ∃ a xs, vs = [.ref a] ∧ ((SqL K H1 a xs ∧ R (Ite K a) H1) ∨ (SqT K H1 a xs ∧ R (IteT K a) H1))
theorem pi_enumA {X : Cx} {e : Expr} {ta : TA} {p pos tpos : Pos} {elts : List Expr} {kk : Nat} (hg : Gl X "enumerate") (hm : X.mg "enumerate" = none) (ha : PA X [e] ta) (hs : starEach [e] X.env = [(false, eval e X.env)] := by rfl) :
    PI X (.Tuple elts kk tpos) (.Call (.Name "enumerate" p) [e] [] pos) (iEnumA X.K ta) := by
  refine ⟨fun pins s σ H R I h => ?_⟩
  refine Call_ (ld_blt I hg hm boot_enumerate (PyProof.Rows.callWith_type1 (thn (ha.run pos pins s σ H _ I h) fun us s1 ⟨vs, H1, I1, r1, q1⟩ => ?_) hs rfl))
  obtain ⟨a, xs, ex, q1⟩ := q1
  subst ex
  have fp : ∀ b ∈ [s1.heap.objs.size + 1, s1.heap.objs.size], FpOk X pins H1 b := fun b hb => by
    have e' : b = s1.heap.objs.size + 1 ∨ b = s1.heap.objs.size := by simpa using hb
    have hle : s1.heap.objs.size ≤ b := by
      rcases e' with z | z
      · rw [z]; exact Nat.le_add_right _ _
      · rw [z]; exact Nat.le_refl _
    exact I1.fpOk hle (I1.hok.fresh hle)
  cases r1 with
  | cons r rr =>
    cases rr
    cases r
    rcases q1 with ⟨hq, q⟩ | ⟨hq, q⟩
    · obtain ⟨its, rv, p', hz⟩ := I1.list hq
      refine call_enumerate_list p'.isList fun h' he hit hsz hk => wpAny_pyIter_enum he ?_
      have I2 : Inv X pins σ H1 { s1 with heap := h' } := I1.kept (t' := s1.toks) hk
      exact ⟨s1.heap.objs.size + 1, [s1.heap.objs.size + 1, s1.heap.objs.size], _, _, H1, rfl, I2, turn_enum a (s1.heap.objs.size + 1) s1.heap.objs.size, ⟨⟨.none, he⟩, hit, Nat.succ_ne_self _⟩, fp, q⟩
    · obtain ⟨its, rv, p', hz⟩ := I1.tuple hq
      have ha' : a < s1.heap.objs.size := p'.lt
      refine call_enumerate_tup p' fun h' he hit hsz hk => wpAny_pyIter_enum he ?_
      have I2 : Inv X pins σ H1 { s1 with heap := h' } := I1.kept (t' := s1.toks) hk
      exact ⟨s1.heap.objs.size + 1, [s1.heap.objs.size + 1, s1.heap.objs.size], _, _, H1, rfl, I2, turn_enumT a (s1.heap.objs.size + 1) s1.heap.objs.size (Nat.ne_of_lt ha'), ⟨⟨.none, he⟩, hit, Nat.succ_ne_self _, Nat.ne_of_lt (Nat.lt_succ_of_lt ha')⟩, fp, q⟩
/-- over a list, a tuple or a text -/
def iAny (K : PySem.W.Frag) (te : TE) : TI := fun σ H R => te σ H fun x H1 => (∃ a, x = .ref a ∧ (∃ xs, SqL K H1 a xs) ∧ R (Itl K a) H1) ∨ (∃ a, x = .ref a ∧ (∃ xs, SqT K H1 a xs) ∧ R (Itt K a) H1) ∨ ∃ z, x = .str z ∧ R (Its z) H1
theorem pi_any {X : Cx} {tg l : Expr} {tl : TE} (hl : PE X l tl) : PI X tg l (iAny X.K tl) := by
  refine ⟨fun pins s σ H R I h => ?_⟩
  refine thn (hl.run pins s σ H _ I h) fun v s1 ⟨x, H1, I1, r1, q1⟩ => ?_
  rcases q1 with ⟨a, e, ⟨xs, hq⟩, q⟩ | ⟨a, e, ⟨xs, hq⟩, q⟩ | ⟨z, e, q⟩
  · subst e
    cases r1
    obtain ⟨its, rv, p, hz⟩ := I1.list hq
    refine wpAny_pyIter_list p.isList ?_
    refine ⟨s1.heap.objs.size, [s1.heap.objs.size], _, _, H1, rfl, I1.kept (t' := s1.toks) fun b o e => Heap.get?_push_of_some _ e, turn_list a _, ⟨_, Heap.get?_push_size _ rfl, rfl, rfl⟩, fun b hb => ?_, q⟩
    have e : b = s1.heap.objs.size := by simpa using hb
    subst e
    exact I1.fpOk (Nat.le_refl _) (I1.hok.fresh (Nat.le_refl _))
  · subst e
    cases r1
    obtain ⟨its, rv, p, hz⟩ := I1.tuple hq
    refine wpAny_pyIter_tuple (show s1.heap.IsTuple a its.toArray from p) ?_
    refine ⟨s1.heap.objs.size, [s1.heap.objs.size], _, _, H1, rfl, I1.kept (t' := s1.toks) fun b o e => Heap.get?_push_of_some _ e, turn_tuple a _, ⟨_, Heap.get?_push_size _ rfl, rfl, rfl⟩, fun b hb => ?_, q⟩
    have e : b = s1.heap.objs.size := by simpa using hb
    subst e
    exact I1.fpOk (Nat.le_refl _) (I1.hok.fresh (Nat.le_refl _))
  · subst e
    obtain ⟨t, rfl⟩ := r1
    cases ha : z.cps.all (· < 128)
    · exact wpAny_pyIter_wide ha (pi_one (tk := s1.toks) I1 _ (turn_str _ z t "str_iterator" (.inr rfl)) ⟨_, Heap.get?_push_size _ rfl, rfl, rfl⟩ q)
    · exact wpAny_pyIter_ascii ha (pi_one (tk := s1.toks) I1 _ (turn_str _ z t "str_ascii_iterator" (.inl rfl)) ⟨_, Heap.get?_push_size _ rfl, rfl, rfl⟩ q)
end L2

set_option Elab.async false
set_option linter.all false
set_option maxRecDepth 100000
set_option maxHeartbeats 2000000
namespace MP
open PySem PySem.Spec PyProof.Rows L2 LamX NdefX

/-! ### iterables -/
def YldI (K : PySem.W.Frag) (G H : Hp) (x : V) (d : D) (H' : Hp) : Prop := (H' = H ∧ DQ K G x d) ∨ ∃ p vs ds, x = .ref p ∧ d = .tuple ds ∧ H p = none ∧ H' = upd H p (.tup vs) ∧ DQA K G vs ds
/-- the lists of the slots lk stand as they stood -/
def LkOk (lk : List Nat) (σ : L2.St) (H0 H : Hp) : Prop := ∀ j ∈ lk, ∀ a vs, slotAt σ j = some (.ref a) → H0 a = some (.lst vs) → H a = some (.lst vs)
def WalkI (K : PySem.W.Frag) (J : It) (ds : List D) (lk : List Nat) (σ : L2.St) (H0 G : Hp) : Prop :=
  ∀ i H, Same G H → LkOk lk σ H0 H → (ds.length ≤ i → J.stop i H) ∧ (∀ d, ds[i]? = some d → J.go i H ∧ ∀ x H', J.yld i H x H' → YldI K G H x d H')
theorem WalkI.up {K : PySem.W.Frag} {J : It} {ds : List D} {lk : List Nat} {σ : L2.St} {H0 G G' : Hp} (w : WalkI K J ds lk σ H0 G) (s : Same G G') : WalkI K J ds lk σ H0 G' := fun i H h l => by
  obtain ⟨a, b⟩ := w i H (s.trans h) l
  refine ⟨a, fun d e => ⟨(b d e).1, fun x H' y => ?_⟩⟩
  rcases (b d e).2 x H' y with ⟨z1, z2⟩ | ⟨p, vs, es, z1, z2, z3, z4, z5⟩
  · exact .inl ⟨z1, z2.up s⟩
  · exact .inr ⟨p, vs, es, z1, z2, z3, z4, z5.up s⟩
abbrev IM := Dl → Res (List D)
def lkOw (lk : List Nat) (δ : Dl) : Prop := ∀ j ∈ lk, ∃ l, δ[j]? = some (.ow l)
def PostI (F : Fr) (K : PySem.W.Frag) (mg : Str → Option Value) (W : WX) (lk : List Nat) (G H : Hp) (σ : L2.St) (δ : Dl) (R : It → Hp → Prop) : Res (List D) → Prop
  | .ok ds δ' => ∀ H' G' J, Step F K G H σ δ G' H' σ δ' → WalkI K J ds lk σ H' G' → lkOw lk δ' → R J H'
  | .exc e δ' => ∀ cls d H' G', Step F K G H σ δ G' H' σ δ' → RepX K mg G' cls d e → W cls d σ H'
  | .bad => False
def TII (F : Fr) (K : PySem.W.Frag) (mg : Str → Option Value) (W : WX) (lk : List Nat) (m : IM) : L2.TI := fun σ H R => ∃ G δ, EOk F K G H σ δ ∧ PostI F K mg W lk G H σ δ R (m δ)
structure DI (F : Fr) (W : WX) (X : Cx) (tg e : Expr) (lk : List Nat) (m : IM) : Prop where
  pi : PI X tg e (TII F X.K X.mg W lk m)
theorem PI.cons {X : Cx} {tg e : Expr} {t t' : L2.TI} (h : PI X tg e t) (i : ∀ σ H Q, t' σ H Q → t σ H Q) : PI X tg e t' := ⟨fun pins s σ H Q I q => h.run pins s σ H Q I (i _ _ _ q)⟩
theorem PostI.bindE {F : Fr} {K : PySem.W.Frag} {mg : Str → Option Value} {W : WX} {lk : List Nat} {G H G1 H1 : Hp} {σ : L2.St} {δ δ1 : Dl} {R : It → Hp → Prop} {k : Rv → Dl → Res (List D)} {r : Res Rv} (h : PostI F K mg W lk G H σ δ R (r.bind k)) (s : Step F K G H σ δ G1 H1 σ δ1) :
    Post F K mg W G1 H1 σ δ1 (fun x H2 => ∃ G2 δ2 v, Step F K G1 H1 σ δ1 G2 H2 σ δ2 ∧ RvOk F K G2 H2 σ δ2 x v ∧ RvNew σ δ1 H1 x v ∧ PostI F K mg W lk G H σ δ R (k v δ2)) r := by
  cases r with
  | ok v δ' => exact fun x H' G' t a b => ⟨G', δ', v, t, a, b, h⟩
  | exc e δ' => exact fun c d H' G' t a => h c d H' G' (s.trans t) a
  | bad => exact h
theorem PostI.bindA {F : Fr} {K : PySem.W.Frag} {mg : Str → Option Value} {W : WX} {lk : List Nat} {G H G1 H1 : Hp} {σ : L2.St} {δ δ1 : Dl} {R : It → Hp → Prop} {k : List Rv → Dl → Res (List D)} {r : Res (List Rv)} (h : PostI F K mg W lk G H σ δ R (r.bind k)) (s : Step F K G H σ δ G1 H1 σ δ1) :
    PostA F K mg W G1 H1 σ δ1 (fun x H2 => ∃ G2 δ2 v, Step F K G1 H1 σ δ1 G2 H2 σ δ2 ∧ RvsOk F K G2 H2 σ δ2 x v ∧ RvsNew σ δ1 H1 x v ∧ PostI F K mg W lk G H σ δ R (k v δ2)) r := by
  cases r with
  | ok v δ' => exact fun x H' G' t a b => ⟨G', δ', v, t, a, b, h⟩
  | exc e δ' => exact fun c d H' G' t a => h c d H' G' (s.trans t) a
  | bad => exact h
theorem PostI.later {F : Fr} {K : PySem.W.Frag} {mg : Str → Option Value} {W : WX} {lk : List Nat} {G H G1 H1 : Hp} {σ : L2.St} {δ δ1 : Dl} {R : It → Hp → Prop} {r : Res (List D)} (h : PostI F K mg W lk G H σ δ R r) (s : Step F K G H σ δ G1 H1 σ δ1) : PostI F K mg W lk G1 H1 σ δ1 R r := by
  cases r with
  | ok v δ' => exact fun H' G' J t a b => h H' G' J (s.trans t) a b
  | exc e δ' => exact fun c d H' G' t a => h c d H' G' (s.trans t) a
  | bad => exact h
/-- what a loop over d walks -/
def itemsD : D → Option (List D)
  | .list l => some l
  | .tuple l => some l
  | .str z => some (z.cps.toList.map fun c => .str ⟨#[c]⟩)
  | _ => none
def seqI (m : EM) : IM := fun δ => (m δ).bind fun r δ1 => match esc1 r δ1 with
  | some (d, δ2) => match itemsD d with
    | some ds => .ok ds δ2
    | none => .bad
  | none => .bad
section
variable {K : PySem.W.Frag} {G H0 : Hp} {σ : L2.St} {a : Addr} {vs : List V} {ds : List D} {lk : List Nat}
theorem walk_list (h : RdK K G a vs) (hd : DQA K G vs ds) : WalkI K (Itl K a) ds lk σ H0 G := fun i H s _ => by
  have hq : SqL K H a vs := (Same.rdk s h).sql
  refine ⟨fun hl => ⟨vs, hq, by rw [hd.len]; exact hl⟩, fun d e => ?_⟩
  obtain ⟨v, e1, e2⟩ := hd.at' e
  refine ⟨⟨vs, v, hq, e1⟩, fun x H' ⟨y1, y2⟩ => .inl ⟨y1, ?_⟩⟩
  have := y2 vs hq
  rw [e1] at this; cases this
  exact e2
theorem walk_tup (h : SqT K G a vs) (hd : DQA K G vs ds) : WalkI K (Itt K a) ds lk σ H0 G := fun i H s _ => by
  have hq : SqT K H a vs := Same.seqT s h
  refine ⟨fun hl => ⟨vs, hq, by rw [hd.len]; exact hl⟩, fun d e => ?_⟩
  obtain ⟨v, e1, e2⟩ := hd.at' e
  refine ⟨⟨vs, v, hq, e1⟩, fun x H' ⟨y1, y2⟩ => .inl ⟨y1, ?_⟩⟩
  have := y2 vs hq
  rw [e1] at this; cases this
  exact e2
theorem walk_str (z : Str) : WalkI K (Its z) (z.cps.toList.map fun c => .str ⟨#[c]⟩) lk σ H0 G := fun i H s _ => by
  refine ⟨fun hl => ?_, fun d e => ?_⟩
  · rw [List.length_map, Array.length_toList] at hl; exact hl
  · rw [List.getElem?_map] at e
    obtain ⟨c, hc, rfl⟩ := Option.map_eq_some_iff.mp e
    rw [Array.getElem?_toList] at hc
    refine ⟨(Array.getElem?_eq_some_iff.mp hc).1, fun x H' ⟨y1, c', y2, y3⟩ => .inl ⟨y1, ?_⟩⟩
    rw [hc] at y2; cases y2
    rw [y3]
    exact .str _
def enumL : Nat → List D → List D
  | _, [] => []
  | n, d :: ds => .tuple [.int n, d] :: enumL (n + 1) ds
theorem enumL_len : ∀ (n : Nat) (ds : List D), (enumL n ds).length = ds.length
  | _, [] => rfl
  | n, d :: ds => by simp [enumL, enumL_len (n + 1) ds]
theorem enumL_get : ∀ (n : Nat) (ds : List D) (i : Nat), (enumL n ds)[i]? = ds[i]?.map fun d => .tuple [.int (n + i : Nat), d]
  | _, [], i => by simp [enumL]
  | n, d :: ds, 0 => by simp [enumL]
  | n, d :: ds, i + 1 => by
    simp only [enumL, List.getElem?_cons_succ]
    rw [enumL_get (n + 1) ds i]
    congr 1
    funext d
    have : n + 1 + i = n + (i + 1) := by omega
    rw [this]
theorem walk_enum (h : RdK K G a vs) (hd : DQA K G vs ds) : WalkI K (Ite K a) (enumL 0 ds) lk σ H0 G := fun i H s _ => by
  have hq : SqL K H a vs := (Same.rdk s h).sql
  refine ⟨fun hl => ⟨vs, hq, by rw [hd.len]; rw [enumL_len] at hl; exact hl⟩, fun d e => ?_⟩
  rw [enumL_get] at e
  obtain ⟨d0, e0, rfl⟩ := Option.map_eq_some_iff.mp e
  obtain ⟨v, e1, e2⟩ := hd.at' e0
  refine ⟨⟨vs, v, hq, e1⟩, fun x H' ⟨T, y, q1, q2, q3, q4⟩ => .inr ⟨T, _, _, q1, rfl, q2, q3, ?_⟩⟩
  have := q4 vs hq
  rw [e1] at this; cases this
  rw [Nat.zero_add]
  exact .cons (.int _) (.cons e2 .nil)
theorem walk_enumT (h : SqT K G a vs) (hd : DQA K G vs ds) : WalkI K (IteT K a) (enumL 0 ds) lk σ H0 G := fun i H s _ => by
  have hq : SqT K H a vs := Same.seqT s h
  refine ⟨fun hl => ⟨vs, hq, by rw [hd.len]; rw [enumL_len] at hl; exact hl⟩, fun d e => ?_⟩
  rw [enumL_get] at e
  obtain ⟨d0, e0, rfl⟩ := Option.map_eq_some_iff.mp e
  obtain ⟨v, e1, e2⟩ := hd.at' e0
  refine ⟨⟨vs, v, hq, e1⟩, fun x H' ⟨T, y, q1, q2, q3, q4⟩ => .inr ⟨T, _, _, q1, rfl, q2, q3, ?_⟩⟩
  have := q4 vs hq
  rw [e1] at this; cases this
  rw [Nat.zero_add]
  exact .cons (.int _) (.cons e2 .nil)
def rangeL (lo : Int) : Nat → List D
  | 0 => []
  | n + 1 => .int lo :: rangeL (lo + 1) n
theorem rangeL_len : ∀ (n : Nat) (lo : Int), (rangeL lo n).length = n
  | 0, _ => rfl
  | n + 1, lo => by simp [rangeL, rangeL_len n (lo + 1)]
theorem rangeL_get : ∀ (n : Nat) (lo : Int) (i : Nat) (d : D), (rangeL lo n)[i]? = some d → i < n ∧ d = .int (lo + i)
  | 0, _, i, d, h => by simp [rangeL] at h
  | n + 1, lo, 0, d, h => by simp [rangeL] at h; subst h; simp
  | n + 1, lo, i + 1, d, h => by
    simp only [rangeL, List.getElem?_cons_succ] at h
    obtain ⟨h1, h2⟩ := rangeL_get n (lo + 1) i d h
    refine ⟨by omega, ?_⟩
    rw [h2]; congr 1; omega
theorem walk_range {lo : Int} {n : Nat} : WalkI K (Itr lo n) (rangeL lo n) lk σ H0 G := fun i H s _ => by
  refine ⟨fun hl => by rw [rangeL_len] at hl; exact hl, fun d e => ?_⟩
  obtain ⟨h1, rfl⟩ := rangeL_get n lo i d e
  exact ⟨h1, fun x H' ⟨y1, y2⟩ => .inl ⟨y1, by rw [y2]; exact .int _⟩⟩
end
section
variable {F : Fr} {W : WX} {X : Cx} {tg a b : Expr} {m : EM} {p pos tpos : Pos} {elts : List Expr} {kk : Nat}
theorem DI.seq (ha : DE F W X a m) : DI F W X tg a [] (seqI m) := by
  refine ⟨PI.cons (pi_any ha.pe) ?_⟩
  rintro σ H R ⟨G, δ, e, h⟩
  refine ⟨G, δ, e, Post.mono (PostI.bindE h (Step.refl e)) fun x H1 ⟨G1, δ1, v1, s1, rv1, nw1, h1⟩ => ?_⟩
  cases q : esc1 v1 δ1 with
  | none => simp only [q] at h1; exact h1.elim
  | some w =>
    obtain ⟨d, δ2⟩ := w
    simp only [q] at h1
    obtain ⟨G2, s2, h2, _⟩ := esc1_ok s1 rv1 nw1 q
    cases d <;> first | exact h1.elim | skip
    · rename_i z
      cases h2
      exact .inr (.inr ⟨z, rfl, h1 _ _ _ s2 (walk_str z) (fun j hj => by cases hj)⟩)
    · rename_i l
      cases h2 with
      | lst h3 h4 => exact .inl ⟨_, rfl, ⟨_, (Same.rdk s2.e.st.sub h3).sql⟩, h1 _ _ _ s2 (walk_list h3 h4) (fun j hj => by cases hj)⟩
    · rename_i l
      cases h2 with
      | tup h3 h4 => exact .inr (.inl ⟨_, rfl, ⟨_, Same.seqT s2.e.st.sub h3⟩, h1 _ _ _ s2 (walk_tup h3 h4) (fun j hj => by cases hj)⟩)
def enumI (m : EM) : IM := fun δ => (m δ).bind fun r δ1 => match esc1 r δ1 with
  | some (d, δ2) => match d with
    | .list l => .ok (enumL 0 l) δ2
    | .tuple l => .ok (enumL 0 l) δ2
    | _ => .bad
  | none => .bad
theorem DI.enum (ha : DE F W X a m) (hm : X.mg "enumerate" = Option.none) (hg : Gl X "enumerate" := by rfl) (hs : starEach [a] X.env = [(false, eval a X.env)] := by rfl) : DI F W X (.Tuple elts kk tpos) (.Call (.Name "enumerate" p) [a] [] pos) [] (enumI m) := by
  refine ⟨PI.cons (pi_enumA hg hm (pa_cons ha.pe pa_nil (hs := hs)) hs) ?_⟩
  rintro σ H R ⟨G, δ, e, h⟩
  refine ⟨G, δ, e, Post.mono (PostI.bindE h (Step.refl e)) fun x H1 ⟨G1, δ1, v1, s1, rv1, nw1, h1⟩ => ?_⟩
  cases q : esc1 v1 δ1 with
  | none => simp only [q] at h1; exact h1.elim
  | some w =>
    obtain ⟨d, δ2⟩ := w
    simp only [q] at h1
    obtain ⟨G2, s2, h2, _⟩ := esc1_ok s1 rv1 nw1 q
    cases d <;> first | exact h1.elim | skip
    · rename_i l
      cases h2 with
      | lst h3 h4 => exact ⟨_, _, rfl, .inl ⟨(Same.rdk s2.e.st.sub h3).sql, h1 _ _ _ s2 (walk_enum h3 h4) (fun j hj => by cases hj)⟩⟩
    · rename_i l
      cases h2 with
      | tup h3 h4 => exact ⟨_, _, rfl, .inr ⟨Same.seqT s2.e.st.sub h3, h1 _ _ _ s2 (walk_enumT h3 h4) (fun j hj => by cases hj)⟩⟩
def rng1I (m : EM) : IM := fun δ => (m δ).bind fun r δ1 => match r.get δ1 with
  | some (.int j) => if -(2 ^ 62) ≤ j ∧ j < 2 ^ 62 then .ok (rangeL 0 j.toNat) δ1 else .bad
  | _ => .bad
def rng2I (m m2 : EM) : IM := fun δ => (m δ).bind fun r δ1 => (m2 δ1).bind fun r2 δ2 => match r.get δ2, r2.get δ2 with
  | some (.int i), some (.int j) => if -(2 ^ 62) ≤ i ∧ i < 2 ^ 62 ∧ -(2 ^ 62) ≤ j ∧ j < 2 ^ 62 then .ok (rangeL i (j - i).toNat) δ2 else .bad
  | _, _ => .bad
theorem DI.range1 (ha : DE F W X a m) (hm : X.mg "range" = Option.none) (hg : Gl X "range" := by rfl) (hs : starEach [a] X.env = [(false, eval a X.env)] := by rfl) : DI F W X tg (.Call (.Name "range" p) [a] [] pos) [] (rng1I m) := by
  refine ⟨PI.cons (pi_range1 hg hm (pa_cons ha.pe pa_nil (hs := hs)) hs) ?_⟩
  rintro σ H R ⟨G, δ, e, h⟩
  refine ⟨G, δ, e, Post.mono (PostI.bindE h (Step.refl e)) fun x H1 ⟨G1, δ1, v1, s1, rv1, nw1, h1⟩ => ?_⟩
  split at h1
  · rename_i j g
    split at h1
    · rename_i hb
      have := (rv1.get s1.e g).of_int
      exact ⟨j, by rw [this], hb.1, hb.2, h1 _ _ _ s1 walk_range (fun j hj => by cases hj)⟩
    · exact h1.elim
  · exact h1.elim
theorem DI.range2 {m2 : EM} (ha : DE F W X a m) (hb : DE F W X b m2) (hm : X.mg "range" = Option.none) (hg : Gl X "range" := by rfl) (hs : starEach [a, b] X.env = [(false, eval a X.env), (false, eval b X.env)] := by rfl) (hs2 : starEach [b] X.env = [(false, eval b X.env)] := by rfl) :
    DI F W X tg (.Call (.Name "range" p) [a, b] [] pos) [] (rng2I m m2) := by
  refine ⟨PI.cons (pi_range2 hg hm (pa_cons ha.pe (pa_cons hb.pe pa_nil (hs := hs2)) (hs := by rw [hs, hs2])) hs hs2) ?_⟩
  rintro σ H R ⟨G, δ, e, h⟩
  refine ⟨G, δ, e, Post.mono (PostI.bindE h (Step.refl e)) fun x H1 ⟨G1, δ1, v1, s1, rv1, nw1, h1⟩ => ⟨G1, δ1, s1.e, Post.mono (PostI.bindE h1 s1) fun y H2 ⟨G2, δ2, v2, s2, rv2, nw2, h2⟩ => ?_⟩⟩
  split at h2
  · rename_i i j g1 g2
    split at h2
    · rename_i hb
      have e1 := ((rv1.step s2 (s2.len s1.e)).get s2.e g1).of_int
      have e2 := (rv2.get s2.e g2).of_int
      exact ⟨i, j, by rw [e1, e2], hb, h2 _ _ _ (s1.trans s2) walk_range (fun j hj => by cases hj)⟩
    · exact h2.elim
  · exact h2.elim
/-- a list of the frame's own, read in its place -/
def lockI (i : Nat) : IM := fun δ => match δ[i]? with
  | some (.ow l) => .ok l δ
  | _ => .bad
theorem DI.lock {i : Nat} {x : Str} (hN : X.N[i]? = some x) (hv : Vis X.env.scope x := by first | exact Or.inl rfl | exact Or.inr (Or.inl rfl) | exact Or.inr (Or.inr rfl)) (hd : (x == ("__debug__" : Str)) = false := by decide) (hcd : (x == ("__classdict__" : Str)) = false := by decide) : DI F W X tg (.Name x p) [i] (lockI i) := by
  refine ⟨PI.cons (pi_list (pe_var hN hv hd hcd)) ?_⟩
  rintro σ H R ⟨G, δ, e, h⟩
  unfold lockI at h
  split at h
  · rename_i l hl
    obtain ⟨a, vs, e1, h1, h2, h3⟩ := e.sl i _ hl
    refine ⟨.ref a, slotAt_some e1, a, rfl, ⟨vs, .inl (.inl h1)⟩, h H G _ (Step.refl e) (fun k H' s lk => ?_) (fun j hj => by rw [List.mem_singleton.mp hj]; exact ⟨l, hl⟩)⟩
    have hq : SqL X.K H' a vs := .inl (.inl (lk i List.mem_cons_self a vs e1 h1))
    refine ⟨fun hl => ⟨vs, hq, by rw [h3.len]; exact hl⟩, fun d e => ?_⟩
    obtain ⟨v, z1, z2⟩ := h3.at' e
    refine ⟨⟨vs, v, hq, z1⟩, fun x H' ⟨y1, y2⟩ => .inl ⟨y1, ?_⟩⟩
    have := y2 vs hq
    rw [z1] at this; cases this
    exact z2
  · exact h.elim
/-! ### for -/
def loopM (g : GM) (b : SM) : List D → SM
  | [], δ => .ok .nx δ
  | d :: ds, δ => match g d δ with
    | none => .bad
    | some δ1 => match b δ1 with
      | .ok .nx δ2 => loopM g b ds δ2
      | .ok .ct δ2 => loopM g b ds δ2
      | .ok .bk δ2 => .ok .nx δ2
      | r => r
def forM (im : IM) (g : GM) (b : SM) : SM := fun δ => (im δ).bind fun ds δ1 => loopM g b ds δ1
theorem YldI.grow {K : PySem.W.Frag} {G H H' : Hp} {x : V} {d : D} (s : Same G H) (y : YldI K G H x d H') : ∃ G', Grow G H G' H' ∧ DQ K G' x d := by
  rcases y with ⟨rfl, h⟩ | ⟨p, vs, ds, rfl, rfl, h1, rfl, h2⟩
  · exact ⟨G, Grow.refl s, h⟩
  · exact ⟨_, Grow.both s h1 (fun ps z => by cases z), .tup (SqT.of upd_same) (h2.up (Same.upd_new (s.free h1)))⟩
theorem DS.for {body : List Stmt} {js : List Nat} {im : IM} {g : GM} {mb : SM} (hp : PassesOwn (model X.prog X.w) X.A X.env X.xe) (hc : X.calm = true) (hi : DI F W X tg a [] im) (hg : DG F X tg js g) (hb : DSs F W X body mb)
    (hs : ∀ x, foldedSetIterable a X.env x = pure x := by intro _; rfl) : DS F W X (.For tg a body [] pos) (forM im g mb) := by
  refine ⟨PS.cons (ps_for hp hc hi.pi hg.pg hb.ps hs) ?_⟩
  rintro D σ H ⟨G, δ, e, h⟩
  refine ⟨G, δ, e, ?_⟩
  have h' : PostS F X.K X.mg W G H σ δ D ((im δ).bind fun ds δ1 => loopM g mb ds δ1) := h
  cases q : im δ with
  | bad => rw [q] at h'; exact h'
  | exc ex δ1 => rw [q] at h'; exact fun cls d H' G' s r => h' cls d σ H' G' s r
  | ok ds δ1 =>
    rw [q] at h'
    intro H1 G1 J s1 w _
    have h1 : PostS F X.K X.mg W G1 H1 σ δ1 D (loopM g mb ds δ1) := PostS.later h' s1
    refine ⟨fun i mm σ' H' => mm = ds.length - i ∧ i ≤ ds.length ∧ ∃ G' δ', Same G1 G' ∧ EOk F X.K G' H' σ' δ' ∧ PostS F X.K X.mg W G' H' σ' δ' D (loopM g mb (ds.drop i) δ'), ⟨ds.length, by simp, Nat.zero_le _, G1, δ1, Same.refl _, s1.e, by simpa using h1⟩, ?_⟩
    rintro i mm σ2 H2 ⟨rfl, hil, G2, δ2, sg, e2, h2⟩
    obtain ⟨w1, w2⟩ := (w.up sg) i H2 e2.st.sub (fun j hj => by cases hj)
    by_cases hlt : i < ds.length
    · refine .inr ⟨(w2 _ (List.getElem?_eq_getElem hlt)).1, fun σ' H' => i + 1 ≤ ds.length ∧ ∃ G' δ', Same G1 G' ∧ EOk F X.K G' H' σ' δ' ∧ PostS F X.K X.mg W G' H' σ' δ' D (loopM g mb (ds.drop (i + 1)) δ'), fun σ' H' z => ⟨ds.length - (i + 1), by omega, rfl, z.1, z.2⟩, fun x H3 y => ?_⟩
      obtain ⟨G3, gr, hd⟩ := ((w2 _ (List.getElem?_eq_getElem hlt)).2 x H3 y).grow e2.st.sub
      have s3 := Step.grow gr e2
      rw [List.drop_eq_getElem_cons hlt] at h2
      have h3 := PostS.later h2 s3
      unfold loopM at h3
      refine ⟨G3, δ2, ds[i], s3.e, hd, ?_⟩
      cases qg : g ds[i] δ2 with
      | none => simp only [qg] at h3; exact h3
      | some δ3 =>
        simp only [qg] at h3
        intro σ4 H4 G4 _ s4
        refine ⟨G4, δ3, s4.e, ?_⟩
        have h4 := PostS.later h3 s4
        have sg4 := sg.trans (s3.g.trans s4.g)
        cases qb : mb δ3 with
        | bad => simp only [qb] at h4; exact h4
        | exc ex δ5 => simp only [qb] at h4; exact h4
        | ok f δ5 =>
          simp only [qb] at h4
          cases f with
          | nx => exact fun σ' H' G' s => ⟨hlt, G', δ5, sg4.trans s.g, s.e, h4.later s⟩
          | ct => exact fun σ' H' G' s => ⟨hlt, G', δ5, sg4.trans s.g, s.e, h4.later s⟩
          | bk => exact h4
          | rt r => exact h4
    · refine .inl ⟨w1 (by omega), ?_⟩
      have e0 : i = ds.length := by omega
      subst e0
      rw [List.drop_length] at h2
      exact h2 σ2 H2 G2 (Step.refl e2)
end
end MP

set_option Elab.async false
set_option linter.all false
set_option maxRecDepth 100000
set_option maxHeartbeats 2000000
namespace MP
open PySem PySem.Spec PyProof.Rows L2 LamX NdefX

/-! ### slots hidden for a while -/
def hide : List Nat → Dl → Dl
  | [], δ => δ
  | v :: vs, δ => (hide vs δ).set v .un
def restore : List Nat → Dl → Dl → Dl
  | [], _, δ => δ
  | v :: vs, δ0, δ => match δ0[v]? with
    | some s => (restore vs δ0 δ).set v s
    | none => restore vs δ0 δ
theorem hide_len : ∀ (S : List Nat) (δ : Dl), (hide S δ).length = δ.length
  | [], _ => rfl
  | v :: vs, δ => by unfold hide; rw [List.length_set, hide_len vs δ]
theorem restore_len : ∀ (S : List Nat) (δ0 δ : Dl), (restore S δ0 δ).length = δ.length
  | [], _, _ => rfl
  | v :: vs, δ0, δ => by
    unfold restore
    split
    · rw [List.length_set, restore_len vs δ0 δ]
    · exact restore_len vs δ0 δ
theorem hide_get : ∀ {S : List Nat} {δ : Dl} {i : Nat} {s : Sl}, (hide S δ)[i]? = some s → (i ∈ S ∧ s = .un) ∨ (i ∉ S ∧ δ[i]? = some s)
  | [], _, _, _, h => .inr ⟨by simp, h⟩
  | v :: vs, δ, i, s, h => by
    unfold hide at h
    rcases get_set h with ⟨rfl, rfl⟩ | ⟨hne, h⟩
    · exact .inl ⟨List.mem_cons_self, rfl⟩
    · rcases hide_get h with ⟨h1, h2⟩ | ⟨h1, h2⟩
      · exact .inl ⟨List.mem_cons_of_mem _ h1, h2⟩
      · exact .inr ⟨fun z => (List.mem_cons.mp z).elim hne h1, h2⟩
theorem restore_get : ∀ {S : List Nat} {δ0 δ : Dl} {i : Nat} {s : Sl}, δ0.length = δ.length → (restore S δ0 δ)[i]? = some s → (i ∈ S ∧ δ0[i]? = some s) ∨ (i ∉ S ∧ δ[i]? = some s)
  | [], _, _, _, _, _, h => .inr ⟨by simp, h⟩
  | v :: vs, δ0, δ, i, s, hl, h => by
    unfold restore at h
    split at h
    · rename_i s0 hs0
      rcases get_set h with ⟨rfl, rfl⟩ | ⟨hne, h⟩
      · exact .inl ⟨List.mem_cons_self, hs0⟩
      · rcases restore_get hl h with ⟨h1, h2⟩ | ⟨h1, h2⟩
        · exact .inl ⟨List.mem_cons_of_mem _ h1, h2⟩
        · exact .inr ⟨fun z => (List.mem_cons.mp z).elim hne h1, h2⟩
    · rename_i hn
      rcases restore_get hl h with ⟨h1, h2⟩ | ⟨h1, h2⟩
      · exact .inl ⟨List.mem_cons_of_mem _ h1, h2⟩
      · refine .inr ⟨fun z => (List.mem_cons.mp z).elim (fun e => ?_) h1, h2⟩
        subst e
        have := List.getElem?_eq_none_iff.mp hn
        have := (List.getElem?_eq_some_iff.mp h2).1
        omega
section
variable {F : Fr} {K : PySem.W.Frag} {G0 H0 G H G' H' : Hp} {σ0 σ σb : L2.St} {δ0 δ δ' : Dl} {S : List Nat}
/-- σb is σ off S -/
structure Offs (S : List Nat) (σ σb : L2.St) : Prop where
  len : σb.length = σ.length
  eq : ∀ j, j ∉ S → slotAt σb j = slotAt σ j
theorem own_hide (o : Offs S σ σb) {a : Addr} (h : Own σb (hide S δ) a) : Own σ δ a := by
  obtain ⟨j, l, h1, h2⟩ := h
  rcases hide_get h2 with ⟨_, z⟩ | ⟨hn, h2⟩
  · cases z
  · exact ⟨j, l, by rw [← o.eq j hn]; exact h1, h2⟩
theorem EOk.hide (e : EOk F K G H σ δ) (o : Offs S σ σb) : EOk F K G H σb (MP.hide S δ) := by
  refine ⟨e.st, by rw [hide_len, o.len]; exact e.len, fun i s h => ?_, fun i j a l l' hne h1 h2 h3 h4 => ?_, fun i a l h1 h2 => ?_, e.pot⟩
  · rcases hide_get h with ⟨_, rfl⟩ | ⟨hn, h⟩
    · trivial
    · rw [o.eq i hn]; exact e.sl i s h
  · rcases hide_get h2 with ⟨_, z⟩ | ⟨n2, h2'⟩
    · cases z
    · rcases hide_get h4 with ⟨_, z⟩ | ⟨n4, h4'⟩
      · cases z
      · rw [o.eq i n2] at h1
        rw [o.eq j n4] at h3
        exact e.dis i j a l l' hne h1 h2' h3 h4'
  · rcases hide_get h2 with ⟨_, z⟩ | ⟨n2, h2'⟩
    · cases z
    · rw [o.eq i n2] at h1
      exact e.po i a l h1 h2'
theorem Step.hide (sb : Step F K G0 H0 σ0 δ0 G H σ δ) (o : Offs S σ σb) : Step F K G0 H0 σ0 δ0 G H σb (MP.hide S δ) :=
  ⟨sb.g, sb.e.hide o, sb.eff, sb.gn, fun b h => sb.new b (own_hide o h)⟩
theorem not_own_hide (e : EOk F K G H σ δ) (o : Offs S σ σb) {j : Nat} {a : Addr} {l : List D} (hj : j ∈ S) (h1 : slotAt σ j = some (.ref a)) (h2 : δ[j]? = some (.ow l)) : ¬ Own σb (MP.hide S δ) a := by
  rintro ⟨k, m, h3, h4⟩
  rcases hide_get h4 with ⟨_, z⟩ | ⟨n4, h4'⟩
  · cases z
  · rw [o.eq k n4] at h3
    exact e.dis j k a l m (fun z => n4 (z ▸ hj)) h1 h2 h3 h4'
theorem own_restore (e : EOk F K G H σ δ) (o : Offs S σ σb) (hl : δ'.length = δ.length) {a : Addr} (h : Own σ (restore S δ δ') a) : (∃ j l, j ∈ S ∧ slotAt σ j = some (.ref a) ∧ δ[j]? = some (.ow l)) ∨ Own σb δ' a := by
  obtain ⟨j, l, h1, h2⟩ := h
  rcases restore_get hl.symm h2 with ⟨hj, h2⟩ | ⟨hj, h2⟩
  · exact .inl ⟨j, l, hj, h1, h2⟩
  · exact .inr ⟨j, l, by rw [o.eq j hj]; exact h1, h2⟩
theorem Step.restore (e : EOk F K G H σ δ) (o : Offs S σ σb) (t : Step F K G H σb (MP.hide S δ) G' H' σb δ') : Step F K G H σ δ G' H' σ (restore S δ δ') := by
  have hl : δ'.length = δ.length := by rw [← t.e.len, o.len, e.len]
  have keepO : ∀ j a l, j ∈ S → slotAt σ j = some (.ref a) → δ[j]? = some (.ow l) → ∃ vs, H' a = some (.lst vs) ∧ G' a = none ∧ DQA K G' vs l ∧ ¬ Own σb δ' a := fun j a l hj h1 h2 => by
    obtain ⟨a', vs, q1, q2, q3, q4⟩ := e.sl j _ h2
    rw [h1] at q1; cases q1
    have hn := not_own_hide e o hj h1 h2
    refine ⟨vs, t.eff.keep _ _ q2 hn (fun ps z => by cases z), ?_, q4.up t.g, fun z => (t.new _ z).elim hn fun z => by rw [q2] at z; cases z⟩
    cases q : G' a with
    | none => rfl
    | some u =>
      rcases t.gn a u q with z | z | z | z
      · rw [q3] at z; cases z
      · rw [q2] at z; cases z
      · exact absurd z hn
      · have e1 := t.e.st.sub _ _ q
        rw [t.eff.keep _ _ q2 hn (fun ps z => by cases z)] at e1
        exact absurd (Option.some.inj e1).symm (z vs)
  refine ⟨t.g, ⟨t.e.st, by rw [restore_len, hl]; exact e.len, fun i s h => ?_, fun i j a l l' hne h1 h2 h3 h4 => ?_, fun i a l h1 h2 => ?_, t.e.pot⟩, ⟨fun b ob hb hn ht => t.eff.keep b ob hb (fun z => hn (own_hide o z)) ht, t.eff.dom⟩,
    fun b ob hb => (t.gn b ob hb).imp id (Or.imp id (Or.imp (own_hide o) id)), fun b h => ?_⟩
  · rcases restore_get hl.symm h with ⟨hi, h⟩ | ⟨hi, h⟩
    · have z := e.sl i s h
      cases s with
      | un => trivial
      | fz d => obtain ⟨v, e1, h1⟩ := z; exact ⟨v, e1, h1.up t.g⟩
      | ow l =>
        obtain ⟨a, vs, e1, h1, h2, h3⟩ := z
        obtain ⟨vs', z1, z2, z3, _⟩ := keepO i a l hi e1 h
        exact ⟨a, vs', e1, z1, z2, z3⟩
      | di l => obtain ⟨a, kvs, e1, h1, h2, h3⟩ := z; exact ⟨a, kvs, e1, t.g _ _ h1, h2, h3.up t.g⟩
      | cl f => obtain ⟨a, Gc, e1, h0, h1⟩ := z; exact ⟨a, Gc, e1, h0, h1.trans (t.g)⟩
      | nd n => obtain ⟨d, f, c', e0, e1, h1, h2⟩ := z; exact ⟨d, f, c', e0, e1, t.g _ _ h1, t.g _ _ h2⟩
    · rw [← o.eq i hi]; exact t.e.sl i s h
  · rcases restore_get hl.symm h2 with ⟨hi, h2'⟩ | ⟨hi, h2'⟩
    · rcases restore_get hl.symm h4 with ⟨hj, h4'⟩ | ⟨hj, h4'⟩
      · exact e.dis i j a l l' hne h1 h2' h3 h4'
      · obtain ⟨_, _, _, _, hn⟩ := keepO i a l hi h1 h2'
        exact hn ⟨j, l', by rw [o.eq j hj]; exact h3, h4'⟩
    · rcases restore_get hl.symm h4 with ⟨hj, h4'⟩ | ⟨hj, h4'⟩
      · obtain ⟨_, _, _, _, hn⟩ := keepO j a l' hj h3 h4'
        exact hn ⟨i, l, by rw [o.eq i hi]; exact h1, h2'⟩
      · exact t.e.dis i j a l l' hne (by rw [o.eq i hi]; exact h1) h2' (by rw [o.eq j hj]; exact h3) h4'
  · rcases restore_get hl.symm h2 with ⟨hi, h2'⟩ | ⟨hi, h2'⟩
    · exact e.po i a l h1 h2'
    · exact t.e.po i a l (by rw [o.eq i hi]; exact h1) h2'
  · rcases own_restore e o hl h with ⟨j, l, _, h1, h2⟩ | z
    · exact .inl ⟨j, l, h1, h2⟩
    · exact (t.new b z).imp (own_hide o) id
/-- a list of no slot, through steps -/
theorem RvOk.stepOw {σ' : L2.St} {x : V} {l : List D} (h : RvOk F K G H σ δ x (.ow l)) (s : Step F K G H σ δ G' H' σ' δ') : RvOk F K G' H' σ' δ' x (.ow l) := by
  obtain ⟨p, vs, e, h1, h2, h3, h4, h5⟩ := h
  refine ⟨p, vs, e, s.eff.keep _ _ h1 h4 (fun ps z => by cases z), ?_, h3.up s.g, fun z => ?_, h5⟩
  · cases q : G' p with
    | none => rfl
    | some u =>
      rcases s.gn p u q with z | z | z | z
      · rw [h2] at z; cases z
      · rw [h1] at z; cases z
      · exact absurd z h4
      · have e1 := s.e.st.sub _ _ q
        rw [s.eff.keep _ _ h1 h4 (fun ps z => by cases z)] at e1
        exact absurd (Option.some.inj e1).symm (z vs)
  · rcases s.new p z with z | z
    · exact h4 z
    · rw [h1] at z; cases z
/-- .. is changed -/
theorem Step.tmp {D0 : Addr} {l l' : List D} {vs' : List V} (sb : Step F K G0 H0 σ0 δ0 G H σ δ) (h : RvOk F K G H σ δ (.ref D0) (.ow l)) (n : H0 D0 = none) (hd : DQA K G vs' l') :
    Step F K G0 H0 σ0 δ0 G (upd H D0 (.lst vs')) σ δ ∧ RvOk F K G (upd H D0 (.lst vs')) σ δ (.ref D0) (.ow l') := by
  obtain ⟨p, vs, e1, h1, h2, h3, h4, h5⟩ := h
  cases e1
  refine ⟨⟨sb.g, ⟨⟨Same.upd_own sb.e.st.sub h2, TabsN.upd_lst sb.e.st.tabs h1, sb.e.st.notb⟩, sb.e.len, fun i s hi => (sb.e.sl i s hi).mut fun m z1 z2 => h4 ⟨i, m, z2, by rw [hi, z1]⟩, sb.e.dis, sb.e.po, fun b hb z => ?_⟩, ⟨fun b o hb hn ht => ?_, fun b hb => ?_⟩, sb.gn, sb.new⟩, ⟨D0, vs', rfl, upd_same, h2, hd, h4, h5⟩⟩
  · by_cases q : b = D0
    · subst q; rw [upd_same] at z; cases z
    · rw [upd_ne q] at z; exact sb.e.pot b hb z
  · rw [upd_ne (ne_of_none hb n)]; exact sb.eff.keep b o hb hn ht
  · by_cases q : b = D0
    · subst q; rw [upd_same] at hb; cases hb
    · rw [upd_ne q] at hb; exact sb.eff.dom b hb
end
/-! ### list comprehensions -/
def WF : WX := fun _ _ _ _ => False
structure DTs (F : Fr) (W : WX) (X : Cx) (ifs : List Expr) (m : TM) : Prop where
  pts : PTs X ifs (TTI F X.K X.mg W m)
theorem PTs.cons {X : Cx} {e : List Expr} {t t' : TT} (h : PTs X e t) (i : ∀ σ H Q, t' σ H Q → t σ H Q) : PTs X e t' := ⟨fun pins s σ H Q I q => h.run pins s σ H Q I (i _ _ _ q)⟩
def yesM : TM := fun δ => .ok true δ
theorem DTs.nil {F : Fr} {W : WX} {X : Cx} : DTs F W X [] yesM := ⟨PTs.cons pts_nil fun σ H Q ⟨G, δ, e, h⟩ => h H G (Step.refl e)⟩
theorem DTs.one {F : Fr} {W : WX} {X : Cx} {c : Expr} {m : TM} (h : DT F W X c m) : DTs F W X [c] m := ⟨pts_one h.pt⟩
def lcLoop (g : GM) (tt : TM) (te : EM) (vs : List Nat) : List D → List D → Dl → Res (List D)
  | [], acc, δ => .ok acc δ
  | d :: ds, acc, δ => match g d δ with
    | none => .bad
    | some δ1 => match tt δ1 with
      | .ok true δ2 => match te δ2 with
        | .ok r δ3 => match esc1 r δ3 with
          | some (y, δ4) => if acc.length < line then lcLoop g tt te vs ds (acc ++ [y]) (hide vs δ4) else .bad
          | none => .bad
        | _ => .bad
      | .ok false δ2 => lcLoop g tt te vs ds acc (hide vs δ2)
      | _ => .bad
def lcM (lk : List Nat) (im : IM) (g : GM) (tt : TM) (te : EM) (vs : List Nat) : EM := fun δ => (im δ).bind fun ds δ1 => match lcLoop g tt te vs ds [] (hide (vs ++ lk) δ1) with
  | .ok acc δ2 => .ok (.ow acc) (restore (vs ++ lk) δ1 δ2)
  | _ => .bad
theorem wipe_off {σ : L2.St} : ∀ (vs : List Nat) (j : Nat), j ∉ vs → slotAt (wipe σ vs) j = slotAt σ j
  | [], _, _ => rfl
  | v :: vs, j, h => by
    unfold wipe
    rw [slotAt_set_ne (fun z => h (by rw [z]; exact List.mem_cons_self)), wipe_off vs j (fun z => h (List.mem_cons_of_mem _ z))]
theorem wipe_offs {σ : L2.St} {vs S : List Nat} (h : ∀ j ∈ vs, j ∈ S) : Offs S σ (wipe σ vs) := ⟨wipe_length σ vs, fun j hj => wipe_off vs j fun z => hj (h j z)⟩
theorem wipe_get {σ : L2.St} : ∀ (vs : List Nat) (j : Nat), (wipe σ vs)[j]? = if j ∈ vs then (if j < σ.length then some none else none) else σ[j]?
  | [], _ => by simp [wipe]
  | v :: vs, j => by
    unfold wipe
    by_cases h : v = j
    · subst h
      rw [List.getElem?_set, wipe_length]
      simp
    · rw [List.getElem?_set_ne h, wipe_get vs j]
      have : (j ∈ v :: vs) = (j ∈ vs) := by simp [Ne.symm h]
      simp only [this]
theorem wipe_eq {σ σ' : L2.St} {vs js : List Nat} (o : Off js σ σ') (h : ∀ j ∈ js, j ∈ vs) : wipe σ' vs = wipe σ vs := by
  apply List.ext_getElem?
  intro j
  rw [wipe_get, wipe_get, o.1]
  by_cases hj : j ∈ vs
  · rw [if_pos hj, if_pos hj]
  · rw [if_neg hj, if_neg hj, o.2 j fun z => hj (h j z)]
theorem wipe_wipe {σ : L2.St} {vs : List Nat} : wipe (wipe σ vs) vs = wipe σ vs := by
  apply List.ext_getElem?
  intro j
  rw [wipe_get, wipe_get, wipe_length]
  by_cases hj : j ∈ vs
  · rw [if_pos hj, if_pos hj]
  · rw [if_neg hj]
theorem Off.slot {js : List Nat} {σ σ' : L2.St} (o : Off js σ σ') {j : Nat} (h : j ∉ js) : slotAt σ' j = slotAt σ j := by
  unfold NdefX.slotAt
  rw [o.2 j h]
section
variable {F : Fr} {W : WX} {X : Cx} {tg iter elt : Expr} {lk js vs : List Nat} {im : IM} {g : GM} {tt : TM} {te : EM}
/-- one turn's end: the accumulator grown, the block's names forgotten -/
theorem TI.lc (hjs : ∀ j ∈ js, j ∈ vs) {σ : L2.St} {H : Hp} {Q : VK} (h : TI F X.K X.mg W (lcM lk im g tt te vs) σ H Q) : tLc (TII F X.K X.mg W lk im) (TGI F X.K js g) (TTI F X.K X.mg WF tt) (TI F X.K X.mg WF te) vs σ H Q := by
  obtain ⟨G, δ, e, h⟩ := h
  refine ⟨G, δ, e, ?_⟩
  have h' : Post F X.K X.mg W G H σ δ Q ((im δ).bind fun ds δ1 => match lcLoop g tt te vs ds [] (hide (vs ++ lk) δ1) with | .ok acc δ2 => .ok (.ow acc) (restore (vs ++ lk) δ1 δ2) | _ => .bad) := h
  cases q : im δ with
  | bad => rw [q] at h'; exact h'.elim
  | exc ex δ1 => rw [q] at h'; exact fun cls d H' G' s r => h' cls d H' G' s r
  | ok ds δ1 =>
    rw [q] at h'
    intro H1 G1 J s1 w hlk D0 hD
    have ofs : Offs (vs ++ lk) σ (wipe σ vs) := wipe_offs fun j hj => List.mem_append_left _ hj
    have e1 := s1.e
    have eb := e1.hide ofs
    simp only [Res.bind] at h'
    cases q2 : lcLoop g tt te vs ds [] (hide (vs ++ lk) δ1) with
    | bad => simp only [q2] at h'; exact h'.elim
    | exc ex δ2 => simp only [q2] at h'; exact h'.elim
    | ok accF δF =>
      simp only [q2] at h'
      -- the new list
      have gr0 : Grow G1 H1 G1 (upd H1 D0 (.lst [])) := Grow.own e1.st.sub hD
      have s0 := Step.grow gr0 eb
      have hD0 : RvOk F X.K G1 (upd H1 D0 (.lst [])) (wipe σ vs) (hide (vs ++ lk) δ1) (.ref D0) (.ow []) := ⟨D0, [], rfl, upd_same, e1.st.sub.free hD, .nil, (fun o => by
        obtain ⟨vs', l', z, _⟩ := Own.lst eb o
        rw [hD] at z; cases z), fun z => eb.pot _ z hD⟩
      refine ⟨fun i m H' => m = ds.length - i ∧ i ≤ ds.length ∧ ∃ G' δ' acc, Step F X.K G1 H1 (wipe σ vs) (hide (vs ++ lk) δ1) G' H' (wipe σ vs) δ' ∧ RvOk F X.K G' H' (wipe σ vs) δ' (.ref D0) (.ow acc) ∧ lcLoop g tt te vs (ds.drop i) acc δ' = .ok accF δF,
        ⟨ds.length, by simp, Nat.zero_le _, G1, _, [], s0, hD0, by simpa using q2⟩, ?_⟩
      rintro i m H2 ⟨rfl, hil, G2, δ2, acc, s2, r2, hl2⟩
      have lkk : LkOk lk σ H1 H2 := fun j hj a ws z1 z2 => by
        obtain ⟨l, hjl⟩ := hlk j hj
        exact s2.eff.keep _ _ z2 (not_own_hide e1 ofs (List.mem_append_right _ hj) z1 hjl) (fun ps z => by cases z)
      obtain ⟨w1, w2⟩ := (w.up s2.g) i H2 s2.e.st.sub lkk
      by_cases hlt : i < ds.length
      · refine .inr ⟨(w2 _ (List.getElem?_eq_getElem hlt)).1, fun H' => i + 1 ≤ ds.length ∧ ∃ G' δ' acc, Step F X.K G1 H1 (wipe σ vs) (hide (vs ++ lk) δ1) G' H' (wipe σ vs) δ' ∧ RvOk F X.K G' H' (wipe σ vs) δ' (.ref D0) (.ow acc) ∧ lcLoop g tt te vs (ds.drop (i + 1)) acc δ' = .ok accF δF,
          fun H' z => ⟨ds.length - (i + 1), by omega, rfl, z.1, z.2⟩, fun x H3 y => ?_⟩
        obtain ⟨G3, gr, hd⟩ := ((w2 _ (List.getElem?_eq_getElem hlt)).2 x H3 y).grow s2.e.st.sub
        have s3 := Step.grow gr s2.e
        rw [List.drop_eq_getElem_cons hlt] at hl2
        unfold lcLoop at hl2
        refine ⟨G3, δ2, ds[i], s3.e, hd, ?_⟩
        cases qg : g ds[i] δ2 with
        | none => simp [qg] at hl2
        | some δ3 =>
          simp only [qg] at hl2
          intro σ4 H4 G4 off s4
          have ofw : wipe σ4 vs = wipe σ vs := by rw [wipe_eq off hjs, wipe_wipe]
          have ofs4 : Offs vs σ4 (wipe σ vs) := by rw [← ofw]; exact wipe_offs fun j hj => hj
          refine ⟨ofw, G4, δ3, s4.e, ?_⟩
          have s24 := (s2.trans s3).trans s4
          have r4 := (r2.stepOw s3).stepOw s4
          cases qt : tt δ3 with
          | bad => simp [qt] at hl2
          | exc ex δ5 => simp [qt] at hl2
          | ok b δ5 =>
            intro H5 G5 s5
            have s25 := s24.trans s5
            have r5 := r4.stepOw s5
            cases b with
            | false =>
              simp only [qt] at hl2
              rw [if_neg Bool.false_ne_true]
              exact ⟨hlt, G5, _, acc, s25.hide ofs4, r5.stepOw ((Step.refl s5.e).hide ofs4), hl2⟩
            | true =>
              simp only [qt] at hl2
              rw [if_pos rfl]
              refine ⟨G5, δ5, s5.e, ?_⟩
              cases qe : te δ5 with
              | bad => simp [qe] at hl2
              | exc ex δ6 => simp [qe] at hl2
              | ok r δ6 =>
                simp only [qe] at hl2
                intro y6 H6 G6 s6 rv6 nw6
                cases qs : esc1 r δ6 with
                | none => simp [qs] at hl2
                | some w =>
                  obtain ⟨yd, δ7⟩ := w
                  simp only [qs] at hl2
                  have r6 := r5.stepOw s6
                  have hne : ∀ l, r = .ow l → y6 ≠ .ref D0 := fun l z1 z2 => by
                    subst z1
                    obtain ⟨p5, vs5, e5, q51, q52, q53, q54, _⟩ := r5
                    cases e5
                    rcases nw6 D0 z2 with z | z
                    · rw [q51] at z; cases z
                    · exact q54 z
                  obtain ⟨G7, s7, hy, hl7, sg7, fr7⟩ := esc1_ok s6 rv6 nw6 qs
                  have r7 : RvOk F X.K G7 H6 σ4 δ7 (.ref D0) (.ow acc) := by
                    obtain ⟨p5, vs5, e5, q51, q52, q53, q54, q55⟩ := r6
                    cases e5
                    obtain ⟨z1, z2⟩ := fr7 D0 q52 hne q54
                    exact ⟨D0, vs5, rfl, q51, z1, q53.up sg7, z2, q55⟩
                  by_cases hz : acc.length < line
                  · rw [if_pos hz] at hl2
                    obtain ⟨p5, vs5, e5, q51, q52, q53, q54, q55⟩ := id r7
                    cases e5
                    obtain ⟨s8, r8⟩ := (s25.trans s7).tmp r7 hD (q53.snoc hy)
                    exact ⟨vs5, q51, by rw [q53.len, ← line_eq]; exact hz, hlt, G7, _, _, s8.hide ofs4, r8.stepOw ((Step.refl s8.e).hide ofs4), hl2⟩
                  · rw [if_neg hz] at hl2; cases hl2
      · refine .inl ⟨w1 (by omega), ?_⟩
        have e0 : i = ds.length := by omega
        subst e0
        rw [List.drop_length] at hl2
        simp only [lcLoop, Res.ok.injEq] at hl2
        obtain ⟨rfl, rfl⟩ := hl2
        have sr := Step.restore e1 ofs s2
        obtain ⟨p5, vs5, e5, q51, q52, q53, q54, q55⟩ := r2
        cases e5
        refine h' (.ref D0) H2 G2 (s1.trans sr) ⟨D0, vs5, rfl, q51, q52, q53, fun o => ?_, q55⟩ fun p z => ?_
        · rcases own_restore e1 ofs (by rw [← s2.e.len, ofs.len, e1.len]) o with ⟨j, l, _, z1, z2⟩ | z
          · obtain ⟨vs', l', z3, _⟩ := Own.lst e1 ⟨j, l, z1, z2⟩
            rw [hD] at z3; cases z3
          · exact q54 z
        · cases z; exact .inl (s1.eff.dom _ hD)
theorem DE.lc {ifs : List Expr} {scope : Scope} {own : List (Str × Nat)} {pos : Pos} (hc : X.calm = true) (hN : X.N.Nodup) (hi : DI F W X tg iter lk im) (ok : BlkOk X.N X.env.scope scope own) (hjs : ∀ j ∈ js, j ∈ own.map (·.2))
    (hg : ∀ (s : Shared) (H : Hp) (C : Addr) (cl : List (Str × Addr)) (fp : List Addr), DG F (X.blk s H scope (compEnvC scope cl C X.env) fp) tg js g) (ht : ∀ (s : Shared) (H : Hp) (C : Addr) (cl : List (Str × Addr)) (fp : List Addr), DTs F WF (X.blk s H scope (compEnvC scope cl C X.env) fp) ifs tt)
    (he : ∀ (s : Shared) (H : Hp) (C : Addr) (cl : List (Str × Addr)) (fp : List Addr), DE F WF (X.blk s H scope (compEnvC scope cl C X.env) fp) elt te) (hs : ∀ x, foldedSetIterable iter X.env x = pure x := by intro _; rfl) :
    DE F W X (.ListComp elt [⟨tg, iter, ifs, 0⟩] scope pos) (lcM lk im g tt te (own.map (·.2))) :=
  ⟨PE.cons (pe_lc (g := TGI F X.K js g) (tt := TTI F X.K X.mg WF tt) (te := TI F X.K X.mg WF te) hc hN hi.pi ok (fun s H C cl fp => (hg s H C cl fp).pg) (fun s H C cl fp => (ht s H C cl fp).pts) (fun s H C cl fp => (he s H C cl fp).pe) hs) fun σ H Q h => TI.lc hjs h⟩
theorem DS.setLc {i : Nat} {y : Str} {py : Pos} {ifs : List Expr} {scope : Scope} {own : List (Str × Nat)} {pos spos : Pos} (hc : X.calm = true) (hN : X.N.Nodup) (hy : X.N[i]? = some y) (hyl : X.env.scope.names.lookup y = some .local) (hp : F.np ≤ i)
    (hsw : swapsWith (.ListComp elt [⟨tg, iter, ifs, 0⟩] scope pos) (some (.Name y py)) spos.line X.env = pure true) (hi : DI F W X tg iter lk im) (ok : BlkOk X.N X.env.scope scope own) (hjs : ∀ j ∈ js, j ∈ own.map (·.2))
    (hg : ∀ (s : Shared) (H : Hp) (C : Addr) (cl : List (Str × Addr)) (fp : List Addr), DG F (X.blk s H scope (compEnvC scope cl C X.env) fp) tg js g) (ht : ∀ (s : Shared) (H : Hp) (C : Addr) (cl : List (Str × Addr)) (fp : List Addr), DTs F WF (X.blk s H scope (compEnvC scope cl C X.env) fp) ifs tt)
    (he : ∀ (s : Shared) (H : Hp) (C : Addr) (cl : List (Str × Addr)) (fp : List Addr), DE F WF (X.blk s H scope (compEnvC scope cl C X.env) fp) elt te) (hs : ∀ x, foldedSetIterable iter X.env x = pure x := by intro _; rfl) :
    DS F W X (.Assign [.Name y py] (.ListComp elt [⟨tg, iter, ifs, 0⟩] scope pos) spos) (asgM i (lcM lk im g tt te (own.map (·.2)))) := by
  refine ⟨PS.cons (ps_setLc (g := TGI F X.K js g) (tt := TTI F X.K X.mg WF tt) (te := TI F X.K X.mg WF te) hc hN hy hyl hsw hi.pi ok (fun s H C cl fp => (hg s H C cl fp).pg) (fun s H C cl fp => (ht s H C cl fp).pts) (fun s H C cl fp => (he s H C cl fp).pe) hs) ?_⟩
  intro D σ H h
  have h2 := SI.asg hp h
  exact TI.lc hjs h2
end
end MP

set_option Elab.async false
set_option linter.all false
set_option maxRecDepth 100000
set_option maxHeartbeats 2000000
namespace MP
open PySem PySem.Spec PyProof.Rows L2 LamX NdefX

/-! ### what a call gives -/
inductive Rt where
  | fz (d : D) | ow (l : List D) | di (l : List (Key × D))
inductive RF where
  | ok (r : Rt) (o : Option (List D)) | exc (e : Ex) (o : Option (List D)) | bad
structure Ret (T : List NTab) (K : PySem.W.Frag) (io : Option Addr) (G H G' H' : Hp) (o : Option (List D)) : Prop where
  g : Same G G'
  st : StOk T G' H'
  keep : ∀ b u, H b = some u → io ≠ some b → NoTbl u → H' b = some u
  dom : ∀ b, H' b = none → H b = none
  gn : ∀ b u, G' b = some u → G b = some u ∨ H b = none ∨ NoLst u
  io : ∀ a, io = some a → ∃ l vs, o = some l ∧ H' a = some (.lst vs) ∧ G' a = none ∧ DQA K G' vs l
def RtOk (K : PySem.W.Frag) (H G' H' : Hp) (x : V) : Rt → Prop
  | .fz d => DQ K G' x d
  | .ow l => ∃ p vs, x = .ref p ∧ H' p = some (.lst vs) ∧ G' p = none ∧ DQA K G' vs l ∧ H p = none
  | .di l => ∃ a kvs, x = .ref a ∧ G' a = some (.dK kvs) ∧ (kvs.map (·.1)).Nodup ∧ DiRep K G' kvs l
def PostF (T : List NTab) (K : PySem.W.Frag) (mg : Str → Option Value) (io : Option Addr) (G H : Hp) (Q : VK) (E : XK) : RF → Prop
  | .ok r o => ∀ x H' G', Ret T K io G H G' H' o → RtOk K H G' H' x r → Q x H'
  | .exc e o => ∀ cls d H' G', Ret T K io G H G' H' o → RepX K mg G' cls d e → E cls d H'
  | .bad => False
def PostC (T : List NTab) (K : PySem.W.Frag) (mg : Str → Option Value) (W : WX) (G H : Hp) (σ : L2.St) (Q : VK) : Rc → Prop
  | .ok d => ∀ x H' G', Ret T K none G H G' H' none → DQ K G' x d → Q x H'
  | .exc e => ∀ cls dd H' G', Ret T K none G H G' H' none → RepX K mg G' cls dd e → W cls dd σ H'
  | .bad => False
/-! ### closures handed in -/
abbrev ClT := Addr → Hp → (List D → Rc) → Prop
structure CloRule (Z : Cx) (W : WX) (T : List NTab) (a : Addr) (Gc : Hp) (φ : List D → Rc) : Prop where
  fn : ∀ (pins : List (Addr × Obj)) (s1 : Shared) (σ : L2.St) (HZ GZ : Hp), Inv Z pins σ HZ s1 → StOk T GZ HZ → Same Gc GZ → PySem.W.FnAt a s1.heap
  run : ∀ (pins : List (Addr × Obj)) (s1 : Shared) (σ : L2.St) (HZ GZ : Hp) (us : List Value) (vs : List V) (ds : List D) (Q : VK), Inv Z pins σ HZ s1 → StOk T GZ HZ → Same Gc GZ → Vals vs us → DQA Z.K GZ vs ds →
    PostC T Z.K Z.mg W GZ HZ σ Q (φ ds) → wpAny (model Z.prog Z.w) Z.A (call (.ref a) us) (EP Z pins σ Q) Z.xe s1
def kc : Nat := 40
def CloP (P : Program) (w : World) (K : PySem.W.Frag) (mg : Str → Option Value) (base : Heap) (T : List NTab) (s : Shared) (H : Hp) : ClT := fun a Gc φ =>
  ∀ (Z : Cx) (W : WX), Z.prog = P → Z.w = w → Z.K = K → Z.mg = mg → Z.base = base → Z.s_0 = s → Z.H_0 = H → Z.ex = [] → Z.calm = true → Room kc Z.A → Z.A.guards = some [] → Takes Z W → CloRule Z W T a Gc φ
def CloOk (F : Fr) (W : WX) (X : Cx) : Prop := ∀ a Gc φ, F.Clo a Gc φ → CloRule X W F.T a Gc φ
/-! ### arguments -/
def ArgS (Cl : ClT) (K : PySem.W.Frag) (G : Hp) (v : V) : Sl → Prop
  | .fz d => DQ K G v d
  | .di l => ∃ a kvs, v = .ref a ∧ G a = some (.dK kvs) ∧ (kvs.map (·.1)).Nodup ∧ DiRep K G kvs l
  | .cl f => ∃ a Gc, v = .ref a ∧ Cl a Gc f ∧ Same Gc G
  | _ => False
inductive ArgsS (Cl : ClT) (K : PySem.W.Frag) (G : Hp) : List V → List Sl → Prop
  | nil : ArgsS Cl K G [] []
  | cons {v : V} {s : Sl} {vs : List V} {as : List Sl} : ArgS Cl K G v s → ArgsS Cl K G vs as → ArgsS Cl K G (v :: vs) (s :: as)
def ArgsOk (Cl : ClT) (K : PySem.W.Frag) (G H : Hp) : Option Addr → List V → List Sl → Prop
  | none, vs, as => ArgsS Cl K G vs as
  | some a, v :: vs, s :: as => v = .ref a ∧ (∃ l ws, s = .ow l ∧ H a = some (.lst ws) ∧ G a = none ∧ DQA K G ws l) ∧ ArgsS Cl K G vs as
  | some _, _, _ => False
theorem ArgsS.len {Cl : ClT} {K : PySem.W.Frag} {G : Hp} {vs : List V} {as : List Sl} (h : ArgsS Cl K G vs as) : vs.length = as.length := by
  induction h with
  | nil => rfl
  | cons _ _ ih => simp [ih]
theorem ArgsS.get {Cl : ClT} {K : PySem.W.Frag} {G : Hp} {vs : List V} {as : List Sl} (h : ArgsS Cl K G vs as) : ∀ {i : Nat} {s : Sl}, as[i]? = some s → ∃ v, vs[i]? = some v ∧ ArgS Cl K G v s := by
  induction h with
  | nil => intro i s z; simp at z
  | cons a _ ih =>
    intro i s z
    cases i with
    | zero => simp at z; subst z; exact ⟨_, rfl, a⟩
    | succ i => simpa using ih (by simpa using z)
/-! ### the promise of a def -/
structure FnC (P : Program) (w : World) (K : PySem.W.Frag) (mg : Str → Option Value) (base : Heap) (T : List NTab) (k : Nat) (f : Addr) (fd : FuncData) (ps : List Str) (io : Bool) (φ : List Sl → RF) : Prop where
  run : ∀ (A : Around) (outer : List Env) (s : Shared) (G H : Hp) (args : Args) (us : List Value) (vs : List V) (as : List Sl) (ia : Option Addr) (Q : VK) (E : XK), Room k A → A.guards = some [] → Env0 P w K mg base A outer s H → BindsTo s fd args (ps.zip us) → Vals vs us →
    vs.length = ps.length → StOk T G H → ia.isSome = io → ArgsOk (CloP P w K mg base T s H) K G H ia vs as → PostF T K mg ia G H Q E (φ as) → codeAny (model P w) A (.call (.ref f) args) (CR (L2.CX P w) outer P w H s Q E) s
def outI (io : Bool) (δ : Dl) (k : Option (List D) → RF) : RF := if io = true then (match (δ[0]? : Option Sl) with
  | some (.ow l) => k (some l)
  | _ => .bad) else k none
def finR (io : Bool) (δ : Dl) (r : Rv) (o : Option (List D)) : RF := match r with
  | .fz d => .ok (.fz d) o
  | .ow l => .ok (.ow l) o
  | .di l => .ok (.di l) o
  | .sl i => match δ[i]? with
    | some (.fz d) => .ok (.fz d) o
    | some (.ow l) => if io = true ∧ i = 0 then .bad else .ok (.ow l) o
    | _ => .bad
  | _ => .bad
def fin (io : Bool) : Res Fl → RF
  | .ok .nx δ => outI io δ fun o => .ok (.fz .none) o
  | .ok (.rt r) δ => outI io δ (finR io δ r)
  | .ok _ _ => .bad
  | .exc e δ => outI io δ fun o => .exc e o
  | .bad => .bad
def start0 (n : Nat) (as : List Sl) : Dl := as ++ List.replicate (n - as.length) .un
def runF (io : Bool) (n : Nat) (mb : SM) (as : List Sl) : RF := fin io (mb (start0 n as))
/-- the frame of a def's body -/
def frOf (P : Program) (w : World) (K : PySem.W.Frag) (mg : Str → Option Value) (base : Heap) (T : List NTab) (nds : List NDef) (s : Shared) (H : Hp) (ia : Option Addr) : Fr :=
  ⟨T, nds, if ia.isSome = true then 1 else 0, fun b => ia = some b, CloP P w K mg base T s H⟩
section
variable {P : Program} {w : World} {K : PySem.W.Frag} {mg : Str → Option Value} {base : Heap} {T : List NTab} {nds : List NDef} {s : Shared} {G H : Hp} {ia : Option Addr} {vs : List V} {as : List Sl} {N : List Str}
theorem start_slot (hl : vs.length ≤ N.length) (i : Nat) : slotAt (L2.start N vs) i = vs[i]? := by
  unfold NdefX.slotAt L2.start
  by_cases h : i < vs.length
  · rw [List.getElem?_append_left (by simpa using h), List.getElem?_map, List.getElem?_eq_getElem h]; rfl
  · rw [List.getElem?_append_right (by simpa using h), List.getElem?_replicate, List.getElem?_eq_none (by omega)]
    split <;> rename_i z <;> (split at z <;> simp_all)
theorem start_len (hl : vs.length ≤ N.length) : (L2.start N vs).length = N.length := by
  unfold L2.start
  rw [List.length_append, List.length_map, List.length_replicate]; omega
theorem start0_get {n : Nat} {i : Nat} {t : Sl} (h : (start0 n as)[i]? = some t) : as[i]? = some t ∨ t = .un := by
  unfold start0 at h
  by_cases q : i < as.length
  · rw [List.getElem?_append_left q] at h; exact .inl h
  · rw [List.getElem?_append_right (by omega), List.getElem?_replicate] at h
    split at h <;> cases h
    exact .inr rfl
theorem ArgsOk.len {Cl : ClT} (h : ArgsOk Cl K G H ia vs as) : vs.length = as.length := by
  cases ia with
  | none => exact ArgsS.len h
  | some a =>
    cases vs with
    | nil => exact h.elim
    | cons v vs =>
      cases as with
      | nil => exact h.elim
      | cons t as => simp [ArgsS.len h.2.2]
theorem ArgsOk.slot {Cl : ClT} (h : ArgsOk Cl K G H ia vs as) {i : Nat} {t : Sl} (e : as[i]? = some t) : (∃ v, vs[i]? = some v ∧ ArgS Cl K G v t) ∨ (i = 0 ∧ ∃ a l ws, ia = some a ∧ vs[0]? = some (.ref a) ∧ t = .ow l ∧ H a = some (.lst ws) ∧ G a = none ∧ DQA K G ws l) := by
  cases ia with
  | none => exact .inl (ArgsS.get h e)
  | some a =>
    cases vs with
    | nil => exact h.elim
    | cons v vs =>
      cases as with
      | nil => exact h.elim
      | cons t0 as =>
        obtain ⟨rfl, ⟨l, ws, rfl, h1, h2, h3⟩, h4⟩ := h
        cases i with
        | zero => simp at e; subst e; exact .inr ⟨rfl, a, l, ws, rfl, rfl, rfl, h1, h2, h3⟩
        | succ i =>
          have e' : as[i]? = some t := by simpa using e
          obtain ⟨v', z1, z2⟩ := ArgsS.get h4 e'
          exact .inl ⟨v', by simpa using z1, z2⟩
theorem start_ok (h : ArgsOk (CloP P w K mg base T s H) K G H ia vs as) (st : StOk T G H) (hl : vs.length ≤ N.length) : EOk (frOf P w K mg base T nds s H ia) K G H (L2.start N vs) (start0 N.length as) := by
  have hla := h.len
  have own0 : ∀ i a l, slotAt (L2.start N vs) i = some (.ref a) → (start0 N.length as)[i]? = some (.ow l) → i = 0 ∧ ia = some a := fun i a l h1 h2 => by
    rw [start_slot hl] at h1
    rcases start0_get h2 with z | z
    · rcases h.slot z with ⟨v, e1, e2⟩ | ⟨rfl, a', l', ws, e1, e2, e3, _⟩
      · exact e2.elim
      · rw [e2] at h1; cases h1; exact ⟨rfl, e1⟩
    · cases z
  refine ⟨st, by rw [start_len hl]; unfold start0; rw [List.length_append, List.length_replicate]; omega, fun i t e => ?_, fun i j a l l' hne h1 h2 h3 h4 => ?_, fun i a l h1 h2 => ?_, fun a ha hn => ?_⟩
  · rw [start_slot hl]
    rcases start0_get e with z | rfl
    · rcases h.slot z with ⟨v, e1, e2⟩ | ⟨rfl, a, l, ws, e1, e2, rfl, e4, e5, e6⟩
      · rw [e1]
        cases t with
        | fz d => exact ⟨v, rfl, e2⟩
        | di l => obtain ⟨a, kvs, rfl, q⟩ := e2; exact ⟨a, kvs, rfl, q⟩
        | cl f => obtain ⟨a, Gc, rfl, q⟩ := e2; exact ⟨a, Gc, rfl, q⟩
        | un => trivial
        | _ => exact e2.elim
      · exact ⟨a, ws, e2, e4, e5, e6⟩
    · trivial
  · exact hne ((own0 _ _ _ h1 h2).1.trans (own0 _ _ _ h3 h4).1.symm)
  · obtain ⟨rfl, e⟩ := own0 _ _ _ h1 h2
    show 0 < (if ia.isSome = true then 1 else 0) ↔ ia = some a
    rw [e]; simp
  · have ha : ia = some a := ha
    subst ha
    cases vs with
    | nil => exact h.elim
    | cons v vs =>
      cases as with
      | nil => exact h.elim
      | cons t as =>
        obtain ⟨_, ⟨l, ws, _, h1, _⟩, _⟩ := h
        rw [h1] at hn; cases hn
theorem start_own (h : ArgsOk (CloP P w K mg base T s H) K G H ia vs as) (hl : vs.length ≤ N.length) {b : Addr} (o : Own (L2.start N vs) (start0 N.length as) b) : ia = some b := by
  obtain ⟨i, l, h1, h2⟩ := o
  rw [start_slot hl] at h1
  rcases start0_get h2 with z | z
  · rcases h.slot z with ⟨v, e1, e2⟩ | ⟨rfl, a', l', ws, e1, e2, e3, _⟩
    · exact e2.elim
    · rw [e2] at h1; cases h1; exact e1
  · cases z
/-- a step from the body's start is a return -/
theorem ret_of {σ' : L2.St} {δ' : Dl} {G' H' : Hp} (h : ArgsOk (CloP P w K mg base T s H) K G H ia vs as) (hl : vs.length ≤ N.length) (t : Step (frOf P w K mg base T nds s H ia) K G H (L2.start N vs) (start0 N.length as) G' H' σ' δ')
    {k : Option (List D) → RF} {Q : VK} {E : XK} {io : Bool} (hio : ia.isSome = io) (q : PostF T K mg ia G H Q E (outI io δ' k)) : ∃ o, Ret T K ia G H G' H' o ∧ PostF T K mg ia G H Q E (k o) := by
  have mk : ∀ o, (∀ a, ia = some a → ∃ l vs, o = some l ∧ H' a = some (.lst vs) ∧ G' a = none ∧ DQA K G' vs l) → Ret T K ia G H G' H' o := fun o ho =>
    ⟨t.g, t.e.st, fun b u hb hn ht => t.eff.keep b u hb (fun z => hn (start_own h hl z)) ht, t.eff.dom, fun b u hb => by
      rcases t.gn b u hb with z | z | z | z
      · exact .inl z
      · exact .inr (.inl z)
      · obtain ⟨l, vs', _, _, z2, _⟩ := ho b (start_own h hl z)
        rw [hb] at z2; cases z2
      · exact .inr (.inr z), ho⟩
  cases ia with
  | none =>
    subst hio
    exact ⟨none, mk _ (fun a z => by cases z), q⟩
  | some a =>
    subst hio
    unfold outI at q
    simp only [Option.isSome_some, if_true] at q
    split at q
    · rename_i l hl0
      obtain ⟨a', vs', e1, e2, e3, e4⟩ := t.e.sl 0 _ hl0
      have hp : (frOf P w K mg base T nds s H (some a)).po a' := (t.e.po 0 a' l e1 hl0).mp (by show 0 < 1; omega)
      have hp : some a = some a' := hp
      cases hp
      exact ⟨some l, mk _ fun b z => by cases z; exact ⟨l, vs', rfl, e2, e3, e4⟩, q⟩
    · exact q.elim
end
/-- THE RULE: a def of the module, by its body -/
theorem FnC.of {P : Program} {w : World} {K : PySem.W.Frag} {mg : Str → Option Value} {base : Heap} {T : List NTab} {k : Nat} {f : Addr} {name qual : Str} {params : Arguments} {body : List Stmt} {scope : Scope} {dV kV doc pm cdv ct oc : Value} {an od : Option Addr} {osl : Array (Option Value)} {N ps : List Str} {io : Bool} {mb : SM} (nds : Cx → List NDef)
    (lk : K.lookup f = some ⟨oc, od, .func (PySem.W.fnOf name qual params body scope dV kV doc pm an cdv ct), osl⟩) (hcd : PySem.W.codeIn K cdv qual = true) (S : FnScope N ps scope)
    (hbody : ∀ (A : Around) (outer : List Env) (s : Shared) (H : Hp) (E : XK) (X : Cx) (F : Fr) (W : WX), X = cxOf (L2.CX P w) P w K mg base N qual scope f cdv A outer s H E → F.T = T → F.nds = nds X → F.np = (if io = true then 1 else 0) → Room k X.A → X.A.guards = some [] → Takes X W → (Room kc X.A → CloOk F W X) → PassesOwn (model P w) X.A X.env X.xe → DSs F W X body mb) :
    FnC P w K mg base T (k + 1) f (PySem.W.fnOf name qual params body scope dV kV doc pm an cdv ct) ps io (runF io N.length mb) := by
  refine ⟨fun A outer s G H args us vs as ia Q E hr hg e0 hb r hl st hio hargs hp => ?_⟩
  have hpl : vs.length ≤ N.length := by have := congrArg List.length S.pre; rw [List.length_take] at this; omega
  refine run_ofS (CX := L2.CX P w) lk hcd S hr e0 hb r hl fun hr' => ?_
  obtain ⟨X, hX⟩ : ∃ X, X = cxOf (L2.CX P w) P w K mg base N qual scope f cdv A outer s H E := ⟨_, rfl⟩
  have tk : Takes X (fun cls d _ H => E cls d H) := by
    subst hX
    exact takes_of (E₁ := fun e' s'' => L2.CX P w outer H s E e' s'') rfl rfl rfl rfl
  have hT : ∀ (F : Fr), F = frOf P w K mg base T (nds X) s H ia → PSs X body (SI F K mg (fun cls d _ H => E cls d H) mb) := fun F hF => by
    have dss := hbody A outer s H E X F (fun cls d _ H => E cls d H) hX (by rw [hF]; rfl) (by rw [hF]; rfl) (by rw [hF]; show (if ia.isSome = true then 1 else 0) = _; rw [hio]) (by subst hX; exact hr') (by subst hX; exact hg) tk (fun hrc a Gc φ hc => by
      subst hF
      exact hc X _ (by subst hX; rfl) (by subst hX; rfl) (by subst hX; rfl) (by subst hX; rfl) (by subst hX; rfl) (by subst hX; rfl) (by subst hX; rfl) (by subst hX; rfl) (by subst hX; rfl) hrc (by subst hX; exact hg) tk) (by
      subst hX
      exact passes_of (K := fun e s'' => L2.CX P w outer H s E e s'') (E₁ := fun e' s'' => L2.CX P w outer H s E e' s'') rfl)
    have h2 := dss.ps
    subst hX
    exact h2
  obtain ⟨F, hF⟩ : ∃ F, F = frOf P w K mg base T (nds X) s H ia := ⟨_, rfl⟩
  have h3 := hT F hF
  subst hX
  refine ⟨_, h3, G, start0 N.length as, by rw [hF]; exact start_ok hargs st hpl, ?_⟩
  have hp' : PostF T K mg ia G H Q E (fin io (mb (start0 N.length as))) := hp
  cases q : mb (start0 N.length as) with
  | bad => rw [q] at hp'; exact hp'.elim
  | exc e δ' =>
    rw [q] at hp'
    intro cls d σ' H' G' t hx
    rw [hF] at t
    obtain ⟨o, h4, h5⟩ := ret_of hargs hpl t hio hp'
    exact h5 cls d H' G' h4 hx
  | ok fl δ' =>
    rw [q] at hp'
    intro σ' H' G' t
    rw [hF] at t
    cases fl with
    | bk => exact hp'.elim
    | ct => exact hp'.elim
    | nx =>
      obtain ⟨o, h4, h5⟩ := ret_of hargs hpl t hio hp'
      exact h5 .non H' G' h4 .non
    | rt r =>
      obtain ⟨o, h4, h5⟩ := ret_of hargs hpl t hio hp'
      intro x rv nw
      rw [hF] at rv
      cases r with
      | fz d => exact h5 x H' G' h4 rv
      | di l => exact h5 x H' G' h4 rv
      | cl f => exact h5.elim
      | nd n => exact h5.elim
      | ow l =>
        obtain ⟨p, vs', rfl, z1, z2, z3, z4, z5⟩ := rv
        refine h5 _ H' G' h4 ⟨p, vs', rfl, z1, z2, z3, ?_⟩
        rcases nw p rfl with z | z
        · exact z
        · exact absurd (start_own hargs hpl z) z5
      | sl i =>
        unfold finR at h5
        cases qs : δ'[i]? with
        | none => simp only [qs] at h5; exact h5.elim
        | some sl =>
          have z := t.e.sl i sl qs
          rw [rv.1] at z
          cases sl with
          | fz d =>
            simp only [qs] at h5
            obtain ⟨v, e1, e2⟩ := z
            cases e1
            exact h5 _ H' G' h4 e2
          | ow l =>
            simp only [qs] at h5
            obtain ⟨p, vs', e1, z1, z2, z3⟩ := z
            cases e1
            split at h5
            · exact h5.elim
            · rename_i hn
              refine h5 _ H' G' h4 ⟨p, vs', rfl, z1, z2, z3, ?_⟩
              rcases t.new p ⟨i, l, rv.1, qs⟩ with y | y
              · exfalso
                have y2 := start_own hargs hpl y
                have y3 := (t.e.po i p l rv.1 qs).mpr y2
                have y3 : i < (if ia.isSome = true then 1 else 0) := y3
                rw [hio] at y3
                split at y3
                · rename_i hio2; exact hn ⟨hio2, by omega⟩
                · omega
              · exact y
          | _ => simp only [qs] at h5; exact h5.elim
end MP

set_option Elab.async false
set_option linter.all false
set_option maxRecDepth 100000
set_option maxHeartbeats 2000000
namespace MP
open PySem PySem.Spec PyProof.Rows L2 LamX NdefX

section
variable {F : Fr} {K : PySem.W.Frag} {G0 H0 G H G' H' : Hp} {σ0 σ : L2.St} {δ0 δ : Dl} {o : Option (List D)} {io : Option Addr}
/-- lists that stand through a call -/
theorem Ret.own (t : Ret F.T K io G H G' H' o) {a : Addr} {vs : List V} (h1 : H a = some (.lst vs)) (h2 : G a = none) (hn : io ≠ some a) : H' a = some (.lst vs) ∧ G' a = none := by
  have h3 := t.keep _ _ h1 hn (fun ps z => by cases z)
  refine ⟨h3, ?_⟩
  cases q : G' a with
  | none => rfl
  | some u =>
    rcases t.gn a u q with z | z | z
    · rw [h2] at z; cases z
    · rw [h1] at z; cases z
    · have e1 := t.st.sub _ _ q
      rw [h3] at e1
      exact absurd (Option.some.inj e1).symm (z vs)
theorem Ret.slot (t : Ret F.T K io G H G' H' o) {v : Option V} {s : Sl} (h : SlOk F K G H v s) (hn : ∀ a l, s = .ow l → v = some (.ref a) → io ≠ some a) : SlOk F K G' H' v s := by
  cases s with
  | un => trivial
  | fz d => obtain ⟨v, e, h⟩ := h; exact ⟨v, e, h.up t.g⟩
  | ow l =>
    obtain ⟨a, vs, e, h1, h2, h3⟩ := h
    obtain ⟨z1, z2⟩ := t.own h1 h2 (hn a l rfl e)
    exact ⟨a, vs, e, z1, z2, h3.up t.g⟩
  | di l => obtain ⟨a, kvs, e, h1, h2, h3⟩ := h; exact ⟨a, kvs, e, t.g _ _ h1, h2, h3.up t.g⟩
  | cl f => obtain ⟨a, Gc, e, h0, h1⟩ := h; exact ⟨a, Gc, e, h0, h1.trans (t.g)⟩
  | nd n => obtain ⟨d, f, c', e0, e, h1, h2⟩ := h; exact ⟨d, f, c', e0, e, t.g _ _ h1, t.g _ _ h2⟩
/-- behind a call: the list lent lies in no slot (or none was lent) -/
theorem Step.ret (sb : Step F K G0 H0 σ0 δ0 G H σ δ) (t : Ret F.T K io G H G' H' o) (hn : ∀ a, io = some a → ¬ Own σ δ a ∧ (H0 a = none ∨ Own σ0 δ0 a)) : Step F K G0 H0 σ0 δ0 G' H' σ δ := by
  have e := sb.e
  refine ⟨sb.g.trans t.g, ⟨t.st, e.len, fun i s hi => t.slot (e.sl i s hi) fun a l z1 z2 z3 => (hn a z3).1 ⟨i, l, z2, by rw [hi, z1]⟩, e.dis, e.po, fun a ha z => e.pot a ha (t.dom a z)⟩, ⟨fun b u hb hno ht => ?_, fun b hb => sb.eff.dom b (t.dom b hb)⟩, fun b u hb => ?_, sb.new⟩
  · refine t.keep b u (sb.eff.keep b u hb hno ht) (fun z => ?_) ht
    rcases (hn b z).2 with y | y
    · rw [hb] at y; cases y
    · exact hno y
  · rcases t.gn b u hb with z | z | z
    · exact sb.gn b u z
    · exact .inr (.inl (sb.eff.dom b z))
    · exact .inr (.inr (.inr z))
/-- .. the list of slot i was lent -/
theorem Step.retSl {i : Nat} {a : Addr} {l l' : List D} (sb : Step F K G0 H0 σ0 δ0 G H σ δ) (t : Ret F.T K (some a) G H G' H' (some l')) (hi : δ[i]? = some (.ow l)) (ha : slotAt σ i = some (.ref a)) : Step F K G0 H0 σ0 δ0 G' H' σ (δ.set i (.ow l')) := by
  have e := sb.e
  obtain ⟨l2, vs', e1, h1, h2, h3⟩ := t.io a rfl
  cases e1
  have own0 : ∀ b, Own σ (δ.set i (.ow l')) b → Own σ δ b := fun b ⟨j, m, h1, h2⟩ => by
    rcases get_set h2 with ⟨rfl, _⟩ | ⟨_, h2⟩
    · exact ⟨j, l, h1, hi⟩
    · exact ⟨j, m, h1, h2⟩
  refine ⟨sb.g.trans t.g, ⟨t.st, by rw [List.length_set]; exact e.len, fun j s hj => ?_, fun j k b l1 l2 hne h1 h2 h3 h4 => ?_, fun j b l1 h1 h2 => ?_, fun b hb z => e.pot b hb (t.dom b z)⟩, ⟨fun b u hb hno ht => ?_, fun b hb => sb.eff.dom b (t.dom b hb)⟩, fun b u hb => ?_, fun b o => sb.new b (own0 b o)⟩
  · rcases get_set hj with ⟨rfl, rfl⟩ | ⟨hne, hj⟩
    · exact ⟨a, vs', ha, h1, h2, h3⟩
    · exact t.slot (e.sl j s hj) fun b m z1 z2 z3 => by
        cases z3
        subst z1
        exact e.dis j i a _ _ hne z2 hj ha hi
  · rcases get_set h2 with ⟨rfl, _⟩ | ⟨_, h2'⟩
    · rcases get_set h4 with ⟨rfl, _⟩ | ⟨_, h4'⟩
      · exact hne rfl
      · exact e.dis _ _ b _ _ hne h1 hi h3 h4'
    · rcases get_set h4 with ⟨rfl, _⟩ | ⟨_, h4'⟩
      · exact e.dis _ _ b _ _ hne h1 h2' h3 hi
      · exact e.dis _ _ b _ _ hne h1 h2' h3 h4'
  · rcases get_set h2 with ⟨rfl, _⟩ | ⟨_, h2'⟩
    · exact e.po _ b l h1 hi
    · exact e.po _ b l1 h1 h2'
  · refine t.keep b u (sb.eff.keep b u hb hno ht) (fun z => ?_) ht
    cases z
    rcases sb.new a ⟨i, l, ha, hi⟩ with y | y
    · exact hno y
    · rw [hb] at y; cases y
  · rcases t.gn b u hb with z | z | z
    · exact sb.gn b u z
    · exact .inr (.inl (sb.eff.dom b z))
    · exact .inr (.inr (.inr z))
end
/-! ### arguments, bound -/
abbrev NB := Nat → Dl → Option (List D → Rc)
def noB : NB := fun _ _ => none
def argE (nb : NB) (r : Rv) (δ : Dl) : Option (Sl × Dl) :=
  match r with
  | .di l => some (.di l, δ)
  | .nd n => match nb n δ with
    | some f => some (.cl f, δ)
    | none => none
  | .cl _ => none
  | r => match esc1 r δ with
    | some (d, δ1) => some (.fz d, δ1)
    | none => none
def argsE (nb : NB) : List Rv → Dl → Option (List Sl × Dl)
  | [], δ => some ([], δ)
  | r :: rs, δ => match argE nb r δ with
    | some (a, δ1) => match argsE nb rs δ1 with
      | some (as, δ2) => some (a :: as, δ2)
      | none => none
    | none => none
/-- the frame's own defs, handed on -/
def NdC (F : Fr) (X : Cx) (nb : NB) : Prop := ∀ n δ φ, nb n δ = some φ → ∀ d, F.nds[n]? = some d → ∀ (pins : List (Addr × Obj)) (s : Shared) (σ : L2.St) (G H : Hp) (f c' : Addr), Inv X pins σ H s → EOk F X.K G H σ δ → G f = some (d.ob f c') → G c' = some (CodeO c' d.q) →
  CloP X.prog X.w X.K X.mg X.base F.T s H f G φ
theorem NdC.no {F : Fr} {X : Cx} : NdC F X noB := fun _ _ _ z => by cases z
section
variable {F : Fr} {X : Cx} {W : WX} {nb : NB} {G0 H0 G H : Hp} {σ : L2.St} {δ0 δ δ' : Dl} {pins : List (Addr × Obj)} {s : Shared}
theorem argE_ok {x : V} {r : Rv} {a : Sl} (nd : NdC F X nb) (I : Inv X pins σ H s) (sb : Step F X.K G0 H0 σ δ0 G H σ δ) (h : RvOk F X.K G H σ δ x r) (nw : RvNew σ δ0 H0 x r) (he : argE nb r δ = some (a, δ')) :
    ∃ G', Step F X.K G0 H0 σ δ0 G' H σ δ' ∧ ArgS (CloP X.prog X.w X.K X.mg X.base F.T s H) X.K G' x a ∧ δ'.length = δ.length ∧ Same G G' ∧ ∀ p, G p = none → (∀ l, r = .ow l → x ≠ .ref p) → ¬ Own σ δ p → G' p = none ∧ ¬ Own σ δ' p := by
  have gen : ∀ {d : D} {δ1 : Dl}, esc1 r δ = some (d, δ1) → ∃ G', Step F X.K G0 H0 σ δ0 G' H σ δ1 ∧ ArgS (CloP X.prog X.w X.K X.mg X.base F.T s H) X.K G' x (.fz d) ∧ δ1.length = δ.length ∧ Same G G' ∧ ∀ p, G p = none → (∀ l, r = .ow l → x ≠ .ref p) → ¬ Own σ δ p → G' p = none ∧ ¬ Own σ δ1 p := fun q => esc1_ok sb h nw q
  cases r with
  | di l => cases he; exact ⟨G, sb, h, rfl, Same.refl G, fun p a _ c => ⟨a, c⟩⟩
  | cl f => cases he
  | nd n =>
    unfold argE at he
    cases q : nb n δ with
    | none => simp [q] at he
    | some φ =>
      simp [q] at he
      obtain ⟨rfl, rfl⟩ := he
      obtain ⟨d, f, c', e0, rfl, h1, h2⟩ := h
      exact ⟨G, sb, ⟨f, G, rfl, nd n δ φ q d e0 pins s σ G H f c' I sb.e h1 h2, Same.refl G⟩, rfl, Same.refl G, fun p a _ c => ⟨a, c⟩⟩
  | fz d => cases he; exact gen rfl
  | ow l => cases he; exact gen rfl
  | sl i =>
    have he' : (match esc1 (.sl i) δ with | some (d, δ1) => some (Sl.fz d, δ1) | none => none) = some (a, δ') := he
    cases q : esc1 (.sl i) δ with
    | none => rw [q] at he'; cases he'
    | some w =>
      obtain ⟨d, δ1⟩ := w
      rw [q] at he'
      cases he'
      exact gen q
theorem ArgS.up {Cl : ClT} {K : PySem.W.Frag} {G G' : Hp} {v : V} {s : Sl} (g : Same G G') (h : ArgS Cl K G v s) : ArgS Cl K G' v s := by
  cases s with
  | fz d => exact DQ.up g h
  | di l => obtain ⟨a, kvs, e, h1, h2, h3⟩ := h; exact ⟨a, kvs, e, g _ _ h1, h2, h3.up g⟩
  | cl f => obtain ⟨a, Gc, e, h0, h1⟩ := h; exact ⟨a, Gc, e, h0, h1.trans (g)⟩
  | _ => exact h
theorem argsE_ok {xs : List V} {rs : List Rv} {as : List Sl} (nd : NdC F X nb) (I : Inv X pins σ H s) (sb : Step F X.K G0 H0 σ δ0 G H σ δ) (h : RvsOk F X.K G H σ δ xs rs) (nw : RvsNew σ δ0 H0 xs rs) (he : argsE nb rs δ = some (as, δ')) :
    ∃ G', Step F X.K G0 H0 σ δ0 G' H σ δ' ∧ ArgsS (CloP X.prog X.w X.K X.mg X.base F.T s H) X.K G' xs as ∧ Same G G' ∧ ∀ p, G p = none → (∀ l, (V.ref p, Rv.ow l) ∉ xs.zip rs) → ¬ Own σ δ p → G' p = none ∧ ¬ Own σ δ' p := by
  induction rs generalizing xs as G δ δ' with
  | nil => cases h; cases he; exact ⟨G, sb, .nil, Same.refl G, fun p a _ c => ⟨a, c⟩⟩
  | cons r rs ih =>
    cases h with
    | cons a b c =>
      cases nw with
      | cons n1 n2 =>
        unfold argsE at he
        cases q : argE nb r δ with
        | none => simp [q] at he
        | some w =>
          obtain ⟨a0, δ1⟩ := w
          obtain ⟨G1, s1, h1, hl, hs, fr⟩ := argE_ok nd I sb a n1 q
          cases q2 : argsE nb rs δ1 with
          | none => simp [q, q2] at he
          | some w =>
            obtain ⟨as2, δ2⟩ := w
            simp [q, q2] at he
            obtain ⟨rfl, rfl⟩ := he
            obtain ⟨G2, s2, h2, h3, fr2⟩ := ih s1 (b.esc hs hl fun y l p hm e h1 h2 => fr p h1 (fun l' z e' => c l' y l z hm (e'.trans e.symm)) h2) n2 q2
            refine ⟨G2, s2, .cons (h1.up h3) h2, hs.trans h3, fun p z1 z2 z3 => ?_⟩
            obtain ⟨y1, y2⟩ := fr p z1 (fun l e1 e2 => z2 l (by rw [e1, e2, List.zip_cons_cons]; exact List.mem_cons_self)) z3
            exact fr2 p y1 (fun l e1 => z2 l (by rw [List.zip_cons_cons]; exact List.mem_cons_of_mem _ e1)) y2
end
/-! ### the call -/
def rtR : Rt → Rv
  | .fz d => .fz d
  | .ow l => .ow l
  | .di l => .di l
def kall (io : Bool) (nb : NB) (φ : List Sl → RF) (rs : List Rv) (δ : Dl) : Res Rv :=
  match io with
  | false => match argsE nb rs δ with
    | some (as, δ2) => match φ as with
      | .ok r _ => .ok (rtR r) δ2
      | .exc e _ => .exc e δ2
      | .bad => .bad
    | none => .bad
  | true => match rs with
    | .sl i :: rest => match argsE nb rest δ with
      | some (as, δ2) => match δ2[i]? with
        | some (.ow l) => match φ (.ow l :: as) with
          | .ok r (some l') => .ok (rtR r) (δ2.set i (.ow l'))
          | .exc e (some l') => .exc e (δ2.set i (.ow l'))
          | _ => .bad
        | _ => .bad
      | none => .bad
    | .ow l :: rest => match argsE nb rest δ with
      | some (as, δ2) => match φ (.ow l :: as) with
        | .ok r _ => .ok (rtR r) δ2
        | .exc e _ => .exc e δ2
        | .bad => .bad
      | none => .bad
    | _ => .bad
section
variable {F : Fr} {X : Cx} {W : WX} {nb : NB} {G0 H0 G H : Hp} {σ : L2.St} {δ0 δ δ' : Dl} {pins : List (Addr × Obj)} {s : Shared} {k : Nat} {f : Addr} {fd : FuncData} {ps ks : List Str} {io : Bool} {φ : List Sl → RF}
theorem RtOk.rv {G' H' : Hp} {x : V} {r : Rt} (e : EOk F X.K G H σ δ) (h : RtOk X.K H G' H' x r) (hp : ∀ p, H p = none → ¬ Own σ δ' p) : RvOk F X.K G' H' σ δ' x (rtR r) := by
  cases r with
  | fz d => exact h
  | di l => exact h
  | ow l =>
    obtain ⟨p, vs, e1, h1, h2, h3, h4⟩ := h
    exact ⟨p, vs, e1, h1, h2, h3, hp p h4, fun z => e.pot p z h4⟩
theorem RtOk.nw {G' H' : Hp} {x : V} {r : Rt} (sb : Step F X.K G0 H0 σ δ0 G H σ δ) (h : RtOk X.K H G' H' x r) : RvNew σ δ0 H0 x (rtR r) := by
  cases r with
  | ow l =>
    obtain ⟨p, vs, e1, h1, h2, h3, h4⟩ := h
    exact fun q e2 => by rw [e1] at e2; cases e2; exact .inl (sb.eff.dom p h4)
  | _ => trivial
theorem own_none (e : EOk F X.K G H σ δ) {p : Addr} (h : H p = none) : ¬ Own σ δ p := fun o => by
  obtain ⟨vs, l, z, _⟩ := Own.lst e o
  rw [h] at z; cases z
theorem kall_run {xs : List V} {rs : List Rv} {us ua : List Value} {kw : List (Str × Value)} {Q : VK} (Fn : FnC X.prog X.w X.K X.mg X.base F.T k f fd ps io φ) (hr : Room k X.A) (hg : X.A.guards = some []) (tk : Takes X W) (nd : NdC F X nb) (I : Inv X pins σ H s)
    (sb : Step F X.K G0 H0 σ δ0 G H σ δ) (rv : RvsOk F X.K G H σ δ xs rs) (nw : RvsNew σ δ0 H0 xs rs) (r : Vals xs us) (hl : xs.length = ps.length) (hb : BindsTo s fd ⟨ua, kw⟩ (ps.zip us)) (h : Post F X.K X.mg W G0 H0 σ δ0 Q (kall io nb φ rs δ)) :
    wpAny (model X.prog X.w) X.A (call (.ref f) ua kw) (EP X pins σ Q) X.xe s := by
  have go : ∀ (G2 : Hp) (as : List Sl) (ia : Option Addr), StOk F.T G2 H → ia.isSome = io → ArgsOk (CloP X.prog X.w X.K X.mg X.base F.T s H) X.K G2 H ia xs as → PostF F.T X.K X.mg ia G2 H Q (fun cls d H' => W cls d σ H') (φ as) → wpAny (model X.prog X.w) X.A (call (.ref f) ua kw) (EP X pins σ Q) X.xe s := fun G2 as ia st hia ha hp => by
    refine wpAny_call (codeAny_mono (Fn.run X.A X.stack s G2 H ⟨ua, kw⟩ us xs as ia Q _ hr hg I.env0 hb r hl st hia ha hp) fun rr s' hq => ?_)
    cases rr with
    | error e => exact tk e s' (XE.of_call I (fun _ _ _ z => z) hq)
    | ok fl =>
      cases fl with
      | ret u => exact I.after hq
      | next => exact False.elim hq
      | brk => exact False.elim hq
      | cont => exact False.elim hq
  cases io with
  | false =>
    unfold kall at h
    simp only at h
    cases q : argsE nb rs δ with
    | none => simp only [q] at h; exact h.elim
    | some w =>
      obtain ⟨as, δ2⟩ := w
      simp only [q] at h
      obtain ⟨G2, s2, a2, _, _⟩ := argsE_ok nd I sb rv nw q
      refine go G2 as none s2.e.st rfl a2 ?_
      cases q2 : φ as with
      | bad => simp only [q2] at h; exact h.elim
      | ok rt o =>
        simp only [q2] at h
        intro x H' G' t ro
        have s3 := s2.ret t (fun a z => by cases z)
        exact h x H' G' s3 (ro.rv s2.e fun p hp => own_none s2.e hp) (ro.nw s2)
      | exc e o =>
        simp only [q2] at h
        intro cls d H' G' t rx
        exact h cls d H' G' (s2.ret t (fun a z => by cases z)) rx
  | true =>
    cases rv with
    | nil => exact h.elim
    | cons a b c =>
      rename_i x r0 xs rs
      cases nw with
      | cons n1 n2 =>
        cases r0 with
        | sl i =>
          unfold kall at h
          simp only at h
          cases q : argsE nb rs δ with
          | none => simp only [q] at h; exact h.elim
          | some w =>
            obtain ⟨as, δ2⟩ := w
            simp only [q] at h
            obtain ⟨G2, s2, a2, _, _⟩ := argsE_ok nd I sb b n2 q
            cases q1 : δ2[i]? with
            | none => simp only [q1] at h; exact h.elim
            | some sl =>
              cases sl with
              | ow l =>
                simp only [q1] at h
                obtain ⟨p, ws, e1, h1, h2, h3⟩ := s2.e.sl i _ q1
                have e2 := a.1
                rw [e1] at e2; cases e2
                refine go G2 (.ow l :: as) (some p) s2.e.st rfl ⟨rfl, ⟨l, ws, rfl, h1, h2, h3⟩, a2⟩ ?_
                cases q2 : φ (.ow l :: as) with
                | bad => simp only [q2] at h; exact h.elim
                | ok rt o =>
                  simp only [q2] at h
                  intro x H' G' t ro
                  obtain ⟨l', _, rfl, _⟩ := t.io p rfl
                  have s3 := s2.retSl t q1 e1
                  refine h x H' G' s3 (ro.rv s2.e fun p' hp' o => ?_) (ro.nw s2)
                  obtain ⟨j, m, z1, z2⟩ := o
                  rcases get_set z2 with ⟨rfl, _⟩ | ⟨_, z2⟩
                  · rw [e1] at z1; cases z1; rw [h1] at hp'; cases hp'
                  · exact own_none s2.e hp' ⟨j, m, z1, z2⟩
                | exc e o =>
                  simp only [q2] at h
                  intro cls d H' G' t rx
                  obtain ⟨l', _, rfl, _⟩ := t.io p rfl
                  exact h cls d H' G' (s2.retSl t q1 e1) rx
              | _ => simp only [q1] at h; exact h.elim
        | ow l =>
          unfold kall at h
          simp only at h
          cases q : argsE nb rs δ with
          | none => simp only [q] at h; exact h.elim
          | some w =>
            obtain ⟨as, δ2⟩ := w
            simp only [q] at h
            obtain ⟨G2, s2, a2, sg, fr⟩ := argsE_ok nd I sb b n2 q
            obtain ⟨p, ws, rfl, h1, h2, h3, h4, h5⟩ := a
            obtain ⟨z1, z2⟩ := fr p h2 (fun l' hm => c l (V.ref p) l' rfl hm rfl) h4
            refine go G2 (.ow l :: as) (some p) s2.e.st rfl ⟨rfl, ⟨l, ws, rfl, h1, z1, h3.up sg⟩, a2⟩ ?_
            have hn : ∀ a, some p = some a → ¬ Own σ δ2 a ∧ (H0 a = none ∨ Own σ δ0 a) := fun a e => by cases e; exact ⟨z2, n1 p rfl⟩
            cases q2 : φ (.ow l :: as) with
            | bad => simp only [q2] at h; exact h.elim
            | ok rt o =>
              simp only [q2] at h
              intro x H' G' t ro
              have s3 := s2.ret t hn
              exact h x H' G' s3 (ro.rv s2.e fun p hp => own_none s2.e hp) (ro.nw s2)
            | exc e o =>
              simp only [q2] at h
              intro cls d H' G' t rx
              exact h cls d H' G' (s2.ret t hn) rx
        | _ => exact h.elim
end
/-- f(e, ..) : dfl the defaults that fill up -/
def callM (io : Bool) (nb : NB) (φ : List Sl → RF) (dfl : List D) (m : AM) : EM := fun δ => (m δ).bind fun rs δ1 => kall io nb φ (rs ++ dfl.map .fz) δ1
/-- the defaults' values -/
inductive Dfl (K : PySem.W.Frag) : List V → List Value → List D → Prop
  | nil : Dfl K [] [] []
  | cons {v : V} {u : Value} {d : D} {vs : List V} {us : List Value} {ds : List D} : RelV v u → DQ K (fun _ => Option.none) v d → Dfl K vs us ds → Dfl K (v :: vs) (u :: us) (d :: ds)
theorem Dfl.vals {K : PySem.W.Frag} {vs : List V} {us : List Value} {ds : List D} (h : Dfl K vs us ds) : Vals vs us := by
  induction h with
  | nil => exact .nil
  | cons a _ _ ih => exact .cons a ih
theorem Dfl.len {K : PySem.W.Frag} {vs : List V} {us : List Value} {ds : List D} (h : Dfl K vs us ds) : vs.length = ds.length := by
  induction h with
  | nil => rfl
  | cons _ _ _ ih => simp [ih]
def LenA (n : Nat) (m : AM) : Prop := ∀ δ rs δ', m δ = .ok rs δ' → rs.length = n
theorem LenA.nil : LenA 0 nilA := fun δ rs δ' h => by
  have h : Res.ok [] δ = Res.ok rs δ' := h
  cases h; rfl
theorem LenA.cons {n : Nat} {m : EM} {r : AM} (h : LenA n r) : LenA (n + 1) (consA m r) := fun δ rs δ' q => by
  unfold consA at q
  cases q1 : m δ with
  | bad => rw [q1] at q; cases q
  | exc e δ1 => rw [q1] at q; cases q
  | ok v δ1 =>
    rw [q1] at q
    have q : ((r δ1).bind fun vs δ2 => Res.ok (v :: vs) δ2) = .ok rs δ' := q
    cases q2 : r δ1 with
    | bad => rw [q2] at q; cases q
    | exc e δ2 => rw [q2] at q; cases q
    | ok vs δ2 =>
      rw [q2] at q
      have q : Res.ok (v :: vs) δ2 = .ok rs δ' := q
      cases q
      rw [List.length_cons, h _ _ _ q2]
theorem RvsOk.dfl {F : Fr} {K : PySem.W.Frag} {G H : Hp} {σ : L2.St} {δ : Dl} {xs vs : List V} {rs : List Rv} {us : List Value} {ds : List D} (h : RvsOk F K G H σ δ xs rs) (d : Dfl K vs us ds) : RvsOk F K G H σ δ (xs ++ vs) (rs ++ ds.map .fz) := by
  have hd : ∀ {vs us ds}, Dfl K vs us ds → RvsOk F K G H σ δ vs (ds.map .fz) := fun {vs us ds} d => by
    induction d with
    | nil => exact .nil
    | cons a b _ ih => exact .cons (DQ.up (fun _ _ z => by cases z) b) ih (fun l y l' z => by cases z)
  induction h with
  | nil => exact hd d
  | cons a b c ih =>
    rename_i x r xs rs
    refine .cons a ih fun l y l' e hm => ?_
    have hlen := b.len
    have hm' : (y, Rv.ow l') ∈ (xs ++ vs).zip (rs ++ ds.map .fz) := hm
    rw [List.zip_append hlen] at hm'
    rcases List.mem_append.mp hm' with z | z
    · exact c l y l' e z
    · obtain ⟨_, z2⟩ := List.of_mem_zip z
      obtain ⟨d0, _, z3⟩ := List.mem_map.mp z2
      cases z3
theorem RvsNew.dfl {K : PySem.W.Frag} {H : Hp} {σ : L2.St} {δ : Dl} {xs vs : List V} {rs : List Rv} {us : List Value} {ds : List D} (h : RvsNew σ δ H xs rs) (d : Dfl K vs us ds) : RvsNew σ δ H (xs ++ vs) (rs ++ ds.map .fz) := by
  induction h with
  | nil =>
    induction d with
    | nil => exact .nil
    | cons a b _ ih => exact .cons trivial ih
  | cons a _ ih => exact .cons a ih
section
variable {F : Fr} {X : Cx} {W : WX} {nb : NB} {k : Nat} {f : Addr} {fd : FuncData} {ps ks : List Str} {io : Bool} {φ : List Sl → RF} {x : Str} {p pos : Pos} {e : Expr} {es : List Expr} {m : AM} {dv : List V} {du : List Value} {dd : List D}
theorem DE.call (Fn : FnC X.prog X.w X.K X.mg X.base F.T k f fd ps io φ) (hr : Room k X.A) (hga : X.A.guards = some []) (tk : Takes X W) (nd : NdC F X nb) (hd : Dfl X.K dv du dd) (hm : X.mg x = some (.ref f)) (hk : PySem.W.keepIn X.K (.ref f) = true)
    (hb : ∀ (s : Shared) (us : List Value), X.K.In s.heap → (us ++ du).length = ps.length → BindsTo s fd ⟨us, []⟩ (ps.zip (us ++ du))) (hl : (e :: es).length + dd.length = ps.length) (hln : LenA (e :: es).length m) (ha : DA F W X (e :: es) m)
    (hg : Gl X x := by rfl) (hdb : (x == ("__debug__" : Str)) = false := by decide) (he : starEach (e :: es) X.env = (false, eval e X.env) :: starEach es X.env := by rfl) (hpl : (backTo pos (starEach es X.env)).any (·.1) = false := by rfl) :
    DE F W X (.Call (.Name x p) (e :: es) [] pos) (callM io nb φ dd m) := by
  refine ⟨⟨fun pins s σ H Q I h => ?_⟩⟩
  obtain ⟨G, δ, e0, h⟩ := h
  have h' : Post F X.K X.mg W G H σ δ Q ((m δ).bind fun rs δ1 => kall io nb φ (rs ++ dd.map .fz) δ1) := h
  refine wpAny_Call_Name_kw (ld_glob I hg hm ?_ hdb)
  have hargs := h'.bindA (Step.refl e0)
  refine PySem.W.callWith_K (h₀ := X.base) I.ok.mod.kin hk (thn (ha.pa.run pos pins s σ H (fun xs H2 => ∃ G2 δ2 v, Step F X.K G H σ δ G2 H2 σ δ2 ∧ RvsOk F X.K G2 H2 σ δ2 xs v ∧ RvsNew σ δ H xs v ∧ Post F X.K X.mg W G H σ δ Q (kall io nb φ (v ++ dd.map .fz) δ2) ∧ v.length = (e :: es).length) I ⟨G, δ, e0, ?_⟩) fun us s1 ⟨vs, H1, I1, r, G1, δ1, rs, s2, rv, nw, hq, hlr⟩ => ⟨I1.kIn, ?_⟩) he hpl
  · cases q : m δ with
    | bad => rw [q] at hargs; exact hargs.elim
    | exc ex δ' => rw [q] at hargs; exact hargs
    | ok rs δ' =>
      rw [q] at hargs h'
      intro xs H' G' t a b
      exact ⟨G', δ', rs, t, a, b, h', hln δ rs δ' q⟩
  · have hl2 : (vs ++ dv).length = ps.length := by
      have h1 := rv.len
      have h2 := hd.len
      rw [List.length_append, h1, h2, hlr]; exact hl
    show wpAny _ _ (PySem.call (.ref f) us []) _ _ _
    exact kall_run Fn hr hga tk nd I1 s2 (rv.dfl hd) (nw.dfl hd) (r.append hd.vals) hl2 (hb s1 us I1.kIn (by rw [← (r.append hd.vals).length]; exact hl2)) hq
/-! ### f(k = e, ..) -/
structure DK (F : Fr) (W : WX) (X : Cx) (kws : List Keyword) (m : AM) : Prop where
  pk : PK X kws (TAI F X.K X.mg W m)
theorem PK.cons {kws : List Keyword} {t t' : TA} (h : PK X kws t) (i : ∀ σ H Q, t' σ H Q → t σ H Q) : PK X kws t' := ⟨fun p pins s σ H Q I q => h.run p pins s σ H Q I (i _ _ _ q)⟩
theorem TAI.nil (σ : L2.St) (H : Hp) (Q : List V → Hp → Prop) (h : TAI F X.K X.mg W nilA σ H Q) : tNil σ H Q := by
  obtain ⟨G, δ, e, h⟩ := h
  exact h [] H G (Step.refl e) .nil .nil
theorem TAI.cons {m1 : EM} {r : AM} (σ : L2.St) (H : Hp) (Q : List V → Hp → Prop) (h : TAI F X.K X.mg W (consA m1 r) σ H Q) : tCons (TI F X.K X.mg W m1) (TAI F X.K X.mg W r) σ H Q := by
  obtain ⟨G, δ, e, h⟩ := h
  refine ⟨G, δ, e, Post.mono (h.bindE (Step.refl e)) fun x H1 ⟨G1, δ1, v1, s1, rv1, nw1, h1⟩ => ⟨G1, δ1, s1.e, PostA.mono (h1.bindA s1) fun ys H2 ⟨G2, δ2, vs, s2, rv2, nw2, h2⟩ => ?_⟩⟩
  refine h2 (x :: ys) H2 G2 (s1.trans s2) (.cons (rv1.step s2 (s2.len s1.e)) rv2 fun l y l' e1 hm e2 => ?_) (.cons nw1 (nw2.step s1))
  subst e1 e2
  obtain ⟨p, vs', rfl, h1, h2, h3, h4, h5⟩ := rv1
  rcases zip_nw nw2 hm p rfl with z | z
  · rw [h1] at z; cases z
  · exact h4 z
theorem DK.nil : DK F W X [] nilA := ⟨PK.cons pk_nil TAI.nil⟩
theorem DK.cons {nm : Option Str} {kp : Pos} {kws : List Keyword} {m1 : EM} {r : AM} (ha : DE F W X e m1) (hr : DK F W X kws r) : DK F W X (⟨nm, e, kp⟩ :: kws) (consA m1 r) := ⟨PK.cons (pk_cons ha.pe hr.pk) TAI.cons⟩
def pick {α : Type} (l : List α) : List Nat → List α
  | [] => []
  | i :: is => match l[i]? with
    | some a => a :: pick l is
    | none => pick l is
theorem pick_mem {α : Type} {l : List α} : ∀ {is : List Nat} {a : α}, a ∈ pick l is → ∃ i ∈ is, l[i]? = some a
  | [], a, h => by cases h
  | i :: is, a, h => by
    unfold pick at h
    split at h
    · rename_i b hb
      rcases List.mem_cons.mp h with rfl | h
      · exact ⟨i, List.mem_cons_self, hb⟩
      · obtain ⟨j, h1, h2⟩ := pick_mem h
        exact ⟨j, List.mem_cons_of_mem _ h1, h2⟩
    · obtain ⟨j, h1, h2⟩ := pick_mem h
      exact ⟨j, List.mem_cons_of_mem _ h1, h2⟩
theorem pick_zip {α β : Type} {l : List α} {m : List β} (hl : l.length = m.length) : ∀ is : List Nat, (pick l is).zip (pick m is) = pick (l.zip m) is
  | [] => rfl
  | i :: is => by
    have ih := pick_zip hl is
    by_cases h : i < l.length
    · have e1 : l[i]? = some l[i] := List.getElem?_eq_getElem h
      have e2 : m[i]? = some (m[i]'(by omega)) := List.getElem?_eq_getElem (by omega)
      have e3 : (l.zip m)[i]? = some (l[i], m[i]'(by omega)) := by rw [List.getElem?_zip_eq_some]; exact ⟨e1, e2⟩
      simp only [pick, e1, e2, e3, List.zip_cons_cons, ih]
    · have e1 : l[i]? = Option.none := List.getElem?_eq_none (by omega)
      have e2 : m[i]? = Option.none := List.getElem?_eq_none (by omega)
      have e3 : (l.zip m)[i]? = Option.none := List.getElem?_eq_none (by rw [List.length_zip]; omega)
      simp only [pick, e1, e2, e3, ih]
theorem Vals.pick {xs : List V} {us : List Value} (r : Vals xs us) : ∀ is : List Nat, Vals (MP.pick xs is) (MP.pick us is)
  | [] => .nil
  | i :: is => by
    unfold MP.pick
    cases q : xs[i]? with
    | none => rw [Vals.none_of r q]; exact Vals.pick r is
    | some x =>
      obtain ⟨u, h1, h2⟩ := Vals.get r q
      rw [h1]
      exact .cons h2 (Vals.pick r is)
theorem RvsOk.at {G H : Hp} {σ : L2.St} {δ : Dl} {xs : List V} {rs : List Rv} (h : RvsOk F X.K G H σ δ xs rs) : ∀ {i : Nat} {x : V} {r : Rv}, xs[i]? = some x → rs[i]? = some r → RvOk F X.K G H σ δ x r := fun {i x r} e1 e2 => zip_rv h (List.mem_of_getElem? (i := i) (by rw [List.getElem?_zip_eq_some]; exact ⟨e1, e2⟩))
theorem RvsNew.at {H : Hp} {σ : L2.St} {δ : Dl} {xs : List V} {rs : List Rv} (h : RvsNew σ δ H xs rs) : ∀ {i : Nat} {x : V} {r : Rv}, xs[i]? = some x → rs[i]? = some r → RvNew σ δ H x r := fun {i x r} e1 e2 => zip_nw h (List.mem_of_getElem? (i := i) (by rw [List.getElem?_zip_eq_some]; exact ⟨e1, e2⟩))
theorem RvsOk.apart {G H : Hp} {σ : L2.St} {δ : Dl} {xs : List V} {rs : List Rv} (h : RvsOk F X.K G H σ δ xs rs) : ∀ {i j : Nat} {x y : V} {l l' : List D}, i ≠ j → xs[i]? = some x → rs[i]? = some (.ow l) → xs[j]? = some y → rs[j]? = some (.ow l') → x ≠ y := by
  induction h with
  | nil => intro i j x y l l' _ e; simp at e
  | cons a b c ih =>
    intro i j x y l l' hne e1 e2 e3 e4
    cases i with
    | zero =>
      cases j with
      | zero => exact absurd rfl hne
      | succ j =>
        simp at e1 e2 e3 e4
        subst e1
        exact c l y l' e2 (List.mem_of_getElem? (i := j) (by rw [List.getElem?_zip_eq_some]; exact ⟨e3, e4⟩))
    | succ i =>
      cases j with
      | zero =>
        simp at e1 e2 e3 e4
        subst e3
        exact (c l' x l e4 (List.mem_of_getElem? (i := i) (by rw [List.getElem?_zip_eq_some]; exact ⟨e1, e2⟩))).symm
      | succ j =>
        simp at e1 e2 e3 e4
        exact ih (fun z => hne (by rw [z])) e1 e2 e3 e4
theorem RvsOk.pick {G H : Hp} {σ : L2.St} {δ : Dl} {xs : List V} {rs : List Rv} (h : RvsOk F X.K G H σ δ xs rs) : ∀ {is : List Nat}, is.Nodup → RvsOk F X.K G H σ δ (MP.pick xs is) (MP.pick rs is)
  | [], _ => .nil
  | i :: is, nd => by
    obtain ⟨n1, n2⟩ := List.nodup_cons.mp nd
    have ih := RvsOk.pick h n2
    unfold MP.pick
    cases q : xs[i]? with
    | none =>
      have q2 : rs[i]? = Option.none := List.getElem?_eq_none (by have := List.getElem?_eq_none_iff.mp q; rw [h.len] at this; exact this)
      rw [q2]; exact ih
    | some x =>
      have hi : i < rs.length := by rw [← h.len]; exact (List.getElem?_eq_some_iff.mp q).1
      have q2 : rs[i]? = some rs[i] := List.getElem?_eq_getElem hi
      rw [q2]
      refine .cons (h.at q q2) ih fun l y l' e1 hm => ?_
      rw [pick_zip h.len] at hm
      obtain ⟨j, hj, ej⟩ := pick_mem hm
      rw [List.getElem?_zip_eq_some] at ej
      exact h.apart (fun z => n1 (by rw [z]; exact hj)) q (by rw [q2, e1]) ej.1 ej.2
theorem RvsNew.pick {H : Hp} {σ : L2.St} {δ : Dl} {xs : List V} {rs : List Rv} (h : RvsNew σ δ H xs rs) (hl : xs.length = rs.length) : ∀ is : List Nat, RvsNew σ δ H (MP.pick xs is) (MP.pick rs is)
  | [] => .nil
  | i :: is => by
    have ih := RvsNew.pick h hl is
    unfold MP.pick
    cases q : xs[i]? with
    | none =>
      have q2 : rs[i]? = Option.none := List.getElem?_eq_none (by have := List.getElem?_eq_none_iff.mp q; rw [hl] at this; exact this)
      rw [q2]; exact ih
    | some x =>
      have hi : i < rs.length := by rw [← hl]; exact (List.getElem?_eq_some_iff.mp q).1
      have q2 : rs[i]? = some rs[i] := List.getElem?_eq_getElem hi
      rw [q2]
      exact .cons (h.at q q2) ih
theorem pick_len {α : Type} {l : List α} : ∀ {is : List Nat}, (∀ i ∈ is, i < l.length) → (pick l is).length = is.length
  | [], _ => rfl
  | i :: is, h => by
    unfold pick
    rw [List.getElem?_eq_getElem (h i List.mem_cons_self)]
    simp [pick_len fun j hj => h j (List.mem_cons_of_mem _ hj)]
def callKM (io : Bool) (nb : NB) (φ : List Sl → RF) (is : List Nat) (m : AM) : EM := fun δ => (m δ).bind fun rs δ1 => kall io nb φ (pick rs is) δ1
theorem DE.callK {kws : List Keyword} {is : List Nat} (Fn : FnC X.prog X.w X.K X.mg X.base F.T k f fd ps io φ) (hr : Room k X.A) (hga : X.A.guards = some []) (tk : Takes X W) (nd : NdC F X nb) (hm : X.mg x = some (.ref f)) (hk : PySem.W.keepIn X.K (.ref f) = true)
    (hb : ∀ (s : Shared) (us : List Value), X.K.In s.heap → us.length = ks.length → BindsTo s fd ⟨[], ks.zip us⟩ (ps.zip (pick us is))) (hnd : is.Nodup) (hil : is.length = ps.length) (hib : ∀ i ∈ is, i < ks.length) (hln : LenA ks.length m) (ha : DK F W X kws m)
    (hall : (backToKw pos (keywordEach kws X.env)).all (·.1.isSome) = true := by rfl) (hks : (backToKw pos (keywordEach kws X.env)).filterMap (·.1) = ks := by rfl)
    (hg : Gl X x := by rfl) (hdb : (x == ("__debug__" : Str)) = false := by decide) (hpl : ((backTo pos (starEach [] X.env)).any (·.1) || (backToKw pos (keywordEach kws X.env)).any (·.1.isNone)) = false := by rfl) :
    DE F W X (.Call (.Name x p) [] kws pos) (callKM io nb φ is m) := by
  refine ⟨⟨fun pins s σ H Q I h => ?_⟩⟩
  obtain ⟨G, δ, e0, h⟩ := h
  have h' : Post F X.K X.mg W G H σ δ Q ((m δ).bind fun rs δ1 => kall io nb φ (pick rs is) δ1) := h
  refine wpAny_Call_Name_kw (ld_glob I hg hm ?_ hdb)
  have hargs := h'.bindA (Step.refl e0)
  refine PySem.W.callWith_KW0 (h₀ := X.base) I.ok.mod.kin hk hall (thn (ha.pk.run pos pins s σ H (fun xs H2 => ∃ G2 δ2 v, Step F X.K G H σ δ G2 H2 σ δ2 ∧ RvsOk F X.K G2 H2 σ δ2 xs v ∧ RvsNew σ δ H xs v ∧ Post F X.K X.mg W G H σ δ Q (kall io nb φ (pick v is) δ2) ∧ v.length = ks.length) I ⟨G, δ, e0, ?_⟩) fun us s1 ⟨vs, H1, I1, r, G1, δ1, rs, s2, rv, nw, hq, hlr⟩ => ⟨I1.kIn, ?_⟩) hpl
  · cases q : m δ with
    | bad => rw [q] at hargs; exact hargs.elim
    | exc ex δ' => rw [q] at hargs; exact hargs
    | ok rs δ' =>
      rw [q] at hargs h'
      intro xs H' G' t a b
      exact ⟨G', δ', rs, t, a, b, h', hln δ rs δ' q⟩
  · have hlv : vs.length = ks.length := by rw [rv.len, hlr]
    have hl2 : (pick vs is).length = ps.length := by rw [pick_len (fun i hi => by rw [hlv]; exact hib i hi)]; exact hil
    rw [hks]
    exact kall_run Fn hr hga tk nd I1 s2 (rv.pick hnd) (nw.pick rv.len is) (Vals.pick r is) hl2 (hb s1 us I1.kIn (by rw [← r.length]; exact hlv)) hq
/-! ### a closure that was handed in -/
def cloM (i : Nat) (m : AM) : EM := fun δ => match δ[i]? with
  | some (.cl f) => (m δ).bind fun rs δ1 => match escL rs δ1 with
    | some (ds, δ2) => match f ds with
      | .ok d => .ok (.fz d) δ2
      | .exc e => .exc e δ2
      | .bad => .bad
    | none => .bad
  | _ => .bad
theorem DE.clo {i : Nat} (hc : CloOk F W X) (hN : X.N[i]? = some x) (ha : DA F W X (e :: es) m) (hv : Vis X.env.scope x := by first | exact Or.inl rfl | exact Or.inr (Or.inl rfl) | exact Or.inr (Or.inr rfl)) (hd : (x == ("__debug__" : Str)) = false := by decide) (hcd : (x == ("__classdict__" : Str)) = false := by decide)
    (he : starEach (e :: es) X.env = (false, eval e X.env) :: starEach es X.env := by rfl) (hpl : (backTo pos (starEach es X.env)).any (·.1) = false := by rfl) :
    DE F W X (.Call (.Name x p) (e :: es) [] pos) (cloM i m) := by
  refine ⟨⟨fun pins s σ H Q I h => ?_⟩⟩
  obtain ⟨G, δ, e0, h⟩ := h
  unfold cloM at h
  split at h
  · rename_i φ hi
    obtain ⟨a, Gc, e1, h0, h1⟩ := e0.sl i _ hi
    have R := hc a Gc φ h0
    refine wpAny_Call_Name_kw (thn ((pe_var (pos := p) hN hv hd hcd).run pins s σ H (fun v H1 => v = .ref a ∧ H1 = H) I ⟨.ref a, slotAt_some e1, rfl, rfl⟩) fun u1 s1 ⟨v, H1, I1, r1, q1⟩ => ?_)
    obtain ⟨ev, eH⟩ := q1
    subst ev
    rw [eH] at I1
    obtain rfl : u1 = Value.ref a := r1
    refine PySem.W.callWith_F (first := []) (R.fn _ _ _ _ _ I1 e0.st h1) (thn (ha.pa.run pos pins s1 σ H (fun xs H2 => ∃ G2 δ2 v, Step F X.K G H σ δ G2 H2 σ δ2 ∧ RvsOk F X.K G2 H2 σ δ2 xs v ∧ RvsNew σ δ H xs v ∧ Post F X.K X.mg W G H σ δ Q (match escL v δ2 with
      | some (ds, δ2) => match φ ds with
        | .ok d => .ok (.fz d) δ2
        | .exc e => .exc e δ2
        | .bad => .bad
      | Option.none => .bad)) I1 ⟨G, δ, e0, h.bindA (Step.refl e0)⟩) fun us s2 ⟨xs, H2, I2, r, G2, δ2, rs, s3, rv, nw, hq⟩ => ?_) he hpl
    cases q : escL rs δ2 with
    | none => simp only [q] at hq; exact hq.elim
    | some w =>
      obtain ⟨ds, δ3⟩ := w
      simp only [q] at hq
      obtain ⟨G3, s4, d3, _⟩ := escL_ok s3 rv nw q
      refine ⟨R.fn _ _ _ _ _ I2 s4.e.st (h1.trans s4.g), ?_⟩
      show wpAny _ _ (PySem.call (.ref a) us) _ _ _
      refine R.run pins s2 σ H2 G3 us xs ds Q I2 s4.e.st (h1.trans s4.g) r d3 ?_
      cases q2 : φ ds with
      | bad => simp only [q2] at hq; exact hq.elim
      | ok d =>
        simp only [q2] at hq
        intro x' H' G' t hx
        exact hq x' H' G' (s4.ret t (fun a z => by cases z)) hx trivial
      | exc ex =>
        simp only [q2] at hq
        intro cls dd H' G' t rx
        exact hq cls dd H' G' (s4.ret t (fun a z => by cases z)) rx
  · exact h.elim
end
end MP

set_option Elab.async false
set_option linter.all false
set_option maxRecDepth 100000
set_option maxHeartbeats 2000000
namespace MP
open PySem PySem.Spec PyProof.Rows L2 LamX NdefX

/-! ### a def within a def: the statement -/
def ndefM (i n : Nat) : SM := fun δ => .ok .nx (δ.set i (.nd n))
section
variable {F : Fr} {K : PySem.W.Frag} {G H H1 : Hp} {σ : L2.St} {δ : Dl} {i n : Nat} {f c' : Addr} {d : NDef}
theorem Step.ndef (e : EOk F K G H σ δ) (hx : ExtN H H1) (hd : ∀ b, H1 b = none → H b = none) (ht : TabsN F.T H1) (hf : H f = none) (h1 : H1 f = some (d.ob f c')) (h2 : H1 c' = some (CodeO c' d.q)) (hob : NoTbl (d.ob f c')) (hnl : NoLst (d.ob f c')) (hn : F.nds[n]? = some d) :
    ∃ G', Step F K G H σ δ G' H1 (σ.set i (some (.ref f))) (δ.set i (.nd n)) := by
  have hG : G f = none := e.st.sub.free hf
  have cT : NoTbl (CodeO c' d.q) := fun ps => codeO_ne ps
  have cL : NoLst (CodeO c' d.q) := fun vs z => by unfold CodeO at z; cases z
  let G' : Hp := fun b => if b = f then some (d.ob f c') else if b = c' then some (CodeO c' d.q) else G b
  have gG : Same G G' := fun b o h => by
    show (if b = f then some (d.ob f c') else if b = c' then some (CodeO c' d.q) else G b) = some o
    by_cases q : b = f
    · subst q; rw [hG] at h; cases h
    · rw [if_neg q]
      by_cases q2 : b = c'
      · subst q2
        rw [if_pos rfl]
        have z := hx b o (e.st.sub _ _ h) (fun ps z => e.st.notb b ps (by rw [h, z]))
        rw [h2] at z; exact z
      · rw [if_neg q2]; exact h
  have gcase : ∀ b o, G' b = some o → (b = f ∧ o = d.ob f c') ∨ (b = c' ∧ o = CodeO c' d.q) ∨ G b = some o := fun b o h => by
    have h : (if b = f then some (d.ob f c') else if b = c' then some (CodeO c' d.q) else G b) = some o := h
    by_cases q : b = f
    · rw [if_pos q] at h; exact .inl ⟨q, (Option.some.inj h).symm⟩
    · rw [if_neg q] at h
      by_cases q2 : b = c'
      · rw [if_pos q2] at h; exact .inr (.inl ⟨q2, (Option.some.inj h).symm⟩)
      · rw [if_neg q2] at h; exact .inr (.inr h)
  have gH : Same G' H1 := fun b o h => by
    rcases gcase b o h with ⟨rfl, rfl⟩ | ⟨rfl, rfl⟩ | h
    · exact h1
    · exact h2
    · exact hx b o (e.st.sub _ _ h) (fun ps z => e.st.notb b ps (by rw [h, z]))
  have lst : ∀ a vs, H a = some (.lst vs) → G a = none → H1 a = some (.lst vs) ∧ G' a = none := fun a vs z1 z2 => by
    have z3 := hx a _ z1 (fun ps z => by cases z)
    refine ⟨z3, ?_⟩
    cases q : G' a with
    | none => rfl
    | some o =>
      rcases gcase a o q with ⟨rfl, rfl⟩ | ⟨rfl, rfl⟩ | h
      · rw [hf] at z1; cases z1
      · rw [h2] at z3; exact absurd (Option.some.inj z3) (cL vs)
      · rw [z2] at h; cases h
  have ns : ∀ s, SlOk F K G H s (.un) → True := fun _ _ => trivial
  have eb : EOk F K G' H1 σ δ := ⟨⟨gH, ht, fun b ps z => by
      rcases gcase b _ z with ⟨_, z2⟩ | ⟨_, z2⟩ | z2
      · exact hob ps z2.symm
      · exact cT ps z2.symm
      · exact e.st.notb b ps z2⟩, e.len, fun j s hj => by
    have z := e.sl j s hj
    cases s with
    | un => trivial
    | fz d => obtain ⟨v, e1, h1⟩ := z; exact ⟨v, e1, h1.up gG⟩
    | ow l =>
      obtain ⟨a, vs, e1, z1, z2, z3⟩ := z
      obtain ⟨y1, y2⟩ := lst a vs z1 z2
      exact ⟨a, vs, e1, y1, y2, z3.up gG⟩
    | di l => obtain ⟨a, kvs, e1, h1, h2, h3⟩ := z; exact ⟨a, kvs, e1, gG _ _ h1, h2, h3.up gG⟩
    | cl f => obtain ⟨a, Gc, e1, h0, h1⟩ := z; exact ⟨a, Gc, e1, h0, h1.trans (gG)⟩
    | nd n => obtain ⟨d, f, c', e0, e1, h1, h2⟩ := z; exact ⟨d, f, c', e0, e1, gG _ _ h1, gG _ _ h2⟩, e.dis, e.po, fun a ha z => e.pot a ha (hd a z)⟩
  have sb : Step F K G H σ δ G' H1 σ δ := ⟨gG, eb, ⟨fun b o hb _ hnt => hx b o hb hnt, hd⟩, fun b o hb => by
    rcases gcase b o hb with ⟨rfl, rfl⟩ | ⟨rfl, rfl⟩ | z
    · exact .inr (.inl hf)
    · exact .inr (.inr (.inr cL))
    · exact .inl z, fun b o => .inl o⟩
  refine ⟨G', sb.put ⟨d, f, c', hn, rfl, ?_, ?_⟩ (fun l p z => by cases z) (fun l p z => by cases z)⟩
  · show (if f = f then some (d.ob f c') else _) = _
    rw [if_pos rfl]
  · show (if c' = f then some (d.ob f c') else if c' = c' then some (CodeO c' d.q) else G c') = _
    by_cases q : c' = f
    · rw [if_pos q]; rw [q, h1] at h2; rw [h2, q]
    · rw [if_neg q, if_pos rfl]
end
theorem fnO_nl {f : Addr} {F : NF} : NoLst (FnO f F) := fun vs z => by unfold FnO at z; cases z
theorem DS.ndef {F : Fr} {W : WX} {X : Cx} {nm : Nat → Nat → Str} {c P : Addr} {name : Str} {params : Arguments} {body : List Stmt} {scope : Scope} {pos : Pos} {i n : Nat} {d : NDef} (TB : TabB X.base X.mg c P) (hcode : X.env.code = .ref c) (hm : (P, nm) ∈ F.T) (hn : nm pos.line pos.col = X.env.qual ++ name) (hu : ∀ p ∈ F.T, p.1 = P → p.2 = nm)
    (hfree : ∀ y ∈ scope.names, y.2 = .free → X.env.scope.names.lookup y.1 = some .cell ∨ X.env.scope.names.lookup y.1 = some .free) (hd0 : params.defaults = []) (hk0 : params.kw_defaults = []) (ha : annTrees params none X.env = [])
    (hN : X.N.Nodup) (hi : X.N[i]? = some name) (hx : Loc X.env.scope name) (hf : X.fn name = true ∨ X.env.scope.names.lookup name = some .local) (hnd : F.nds[n]? = some d) (hob : d.ob = fun f c' => FnO f ⟨name, X.env.qual ++ name, params, body, scope, cloFrom X.env.cells scope.names [], c'⟩) (hq : d.q = X.env.qual ++ name) :
    DS F W X (.FunctionDef name params body [] none [] scope none name pos) (ndefM i n) := by
  refine ⟨PS.cons (ps_ndefM TB hcode hm hn hu hfree hd0 hk0 ha hN hi hx hf) ?_⟩
  rintro D σ H ⟨G, δ, e, h⟩
  refine ⟨e.st.tabs, fun f c' H1 eN hd T1 f0 f1 c1 => ?_⟩
  obtain ⟨G', s⟩ := Step.ndef (d := d) (i := i) (n := n) e eN hd T1 f0 (by rw [hob]; exact f1) (by rw [hq]; exact c1) (by rw [hob]; exact fun ps => fnO_ne ps) (by rw [hob]; exact fnO_nl) hnd
  exact h _ _ _ s
/-! ### .. called as a closure -/
theorem cells_un {cl : List (Str × Addr)} {fr : List Str} {ws : List (Option V)} {h h' : Heap} {H H' : Hp} {fs : List Addr} (C : CellsAt cl fr ws h H) (u : Un fs [] H H' h h') : CellsAt cl fr ws h' H' := by
  have kp : ∀ y c, cl.lookup y = some c → ∀ v, h.IsCell c v → h'.IsCell c v := fun y c e v ⟨o, ho, hd⟩ => by
    obtain ⟨sl, q⟩ := u.any ho (C.all y c e).1 (by simp)
    exact ⟨_, q, hd⟩
  refine ⟨C.len, fun y c e => ?_, C.inj, fun i y e => ?_⟩
  · obtain ⟨n, v, z⟩ := C.all y c e
    obtain ⟨o, ho, _⟩ := id z
    exact ⟨u.free c o ho n (by simp), v, kp y c e v z⟩
  · obtain ⟨c, hc, hv⟩ := C.has i y e
    refine ⟨c, hc, fun v ev => ?_⟩
    obtain ⟨w, r, z⟩ := hv v ev
    exact ⟨w, r, kp y c hc _ z⟩
/-- captured values, as slots -/
def capS (δ : Dl) : List Nat → Option (List Sl)
  | [] => some []
  | j :: js => match δ[j]?, capS δ js with
    | some (.fz d), some r => some (.fz d :: r)
    | some (.di l), some r => some (.di l :: r)
    | _, _ => none
def CapOk (K : PySem.W.Frag) (G : Hp) : List (Option V) → List Sl → Prop
  | [], [] => True
  | o :: ws, .fz d :: cs => (∃ v, o = some v ∧ DQ K G v d) ∧ CapOk K G ws cs
  | o :: ws, .di l :: cs => (∃ a kvs, o = some (.ref a) ∧ G a = some (.dK kvs) ∧ (kvs.map (·.1)).Nodup ∧ DiRep K G kvs l) ∧ CapOk K G ws cs
  | _, _ => False
theorem capS_ok {F : Fr} {K : PySem.W.Frag} {G H : Hp} {σ : L2.St} {δ : Dl} (e : EOk F K G H σ δ) : ∀ {js : List Nat} {cs : List Sl}, capS δ js = some cs → CapOk K G (js.map (slotAt σ)) cs
  | [], _, h => by cases h; trivial
  | j :: js, cs, h => by
    unfold capS at h
    cases q2 : capS δ js with
    | none =>
      exfalso
      rw [q2] at h
      split at h
      · rename_i z; cases z
      · rename_i z; cases z
      · cases h
    | some r =>
      cases q : δ[j]? with
      | none => simp [q] at h
      | some s =>
        have z := e.sl j s q
        cases s with
        | fz d =>
          simp [q, q2] at h
          subst h
          exact ⟨z, capS_ok e q2⟩
        | di l =>
          simp [q, q2] at h
          subst h
          exact ⟨z, capS_ok e q2⟩
        | _ => simp [q, q2] at h
theorem CapOk.up {K : PySem.W.Frag} {G G' : Hp} (g : Same G G') : ∀ {ws : List (Option V)} {cs : List Sl}, CapOk K G ws cs → CapOk K G' ws cs
  | [], [], _ => trivial
  | o :: ws, .fz d :: cs, ⟨⟨v, e, h⟩, t⟩ => ⟨⟨v, e, h.up g⟩, CapOk.up g t⟩
  | o :: ws, .di l :: cs, ⟨⟨a, kvs, e, h1, h2, h3⟩, t⟩ => ⟨⟨a, kvs, e, g _ _ h1, h2, h3.up g⟩, CapOk.up g t⟩
  | [], _ :: _, h => h.elim
  | _ :: _, [], h => h.elim
  | _ :: _, .un :: _, h => h.elim
  | _ :: _, .ow _ :: _, h => h.elim
  | _ :: _, .cl _ :: _, h => h.elim
  | _ :: _, .nd _ :: _, h => h.elim
theorem CapOk.len {K : PySem.W.Frag} {G : Hp} : ∀ {ws : List (Option V)} {cs : List Sl}, CapOk K G ws cs → ws.length = cs.length
  | [], [], _ => rfl
  | o :: ws, .fz d :: cs, h => congrArg Nat.succ (CapOk.len h.2)
  | o :: ws, .di l :: cs, h => congrArg Nat.succ (CapOk.len h.2)
  | [], _ :: _, h => h.elim
  | _ :: _, [], h => h.elim
  | _ :: _, .un :: _, h => h.elim
  | _ :: _, .ow _ :: _, h => h.elim
  | _ :: _, .cl _ :: _, h => h.elim
  | _ :: _, .nd _ :: _, h => h.elim
theorem CapOk.get {K : PySem.W.Frag} {G : Hp} : ∀ {ws : List (Option V)} {cs : List Sl} {i : Nat} {s : Sl}, CapOk K G ws cs → cs[i]? = some s → ∃ o, ws[i]? = some o ∧ ((∃ d v, s = .fz d ∧ o = some v ∧ DQ K G v d) ∨ ∃ l a kvs, s = .di l ∧ o = some (.ref a) ∧ G a = some (.dK kvs) ∧ (kvs.map (·.1)).Nodup ∧ DiRep K G kvs l)
  | [], [], _, _, _, h => by simp at h
  | o :: ws, .fz d :: cs, 0, s, h, e => by simp at e; subst e; obtain ⟨⟨v, e1, h1⟩, _⟩ := h; exact ⟨o, rfl, .inl ⟨d, v, rfl, e1, h1⟩⟩
  | o :: ws, .di l :: cs, 0, s, h, e => by simp at e; subst e; obtain ⟨⟨a, kvs, e1, h1⟩, _⟩ := h; exact ⟨o, rfl, .inr ⟨l, a, kvs, rfl, e1, h1⟩⟩
  | o :: ws, .fz d :: cs, i + 1, s, h, e => by simpa using CapOk.get (i := i) h.2 (by simpa using e)
  | o :: ws, .di l :: cs, i + 1, s, h, e => by simpa using CapOk.get (i := i) h.2 (by simpa using e)
  | [], _ :: _, _, _, h, _ => h.elim
  | _ :: _, [], _, _, h, _ => h.elim
  | _ :: _, .un :: _, _, _, h, _ => h.elim
  | _ :: _, .ow _ :: _, _, _, h, _ => h.elim
  | _ :: _, .cl _ :: _, _, _, h, _ => h.elim
  | _ :: _, .nd _ :: _, _, _, h, _ => h.elim
/-- what the nested def's call gives -/
def toRc : RF → Rc
  | .ok (.fz d) _ => .ok d
  | .exc e _ => .exc e
  | _ => .bad
def runN (n : Nat) (mb : SM) (caps : List Sl) (ds : List D) : Rc := toRc (runF false n mb (ds.map Sl.fz ++ caps))
section
variable {P : Program} {w : World} {K : PySem.W.Frag} {mg : Str → Option Value} {base : Heap} {T : List NTab} {N ps fr : List Str} {NFn : NF} {f : Addr} {k : Nat} {mb : SM}
theorem startF_slot {vs : List V} {ws : List (Option V)} (hl : vs.length + ws.length ≤ N.length) (i : Nat) : slotAt (startF N vs ws) i = if i < vs.length then vs[i]? else (ws[i - vs.length]?).getD none := by
  unfold NdefX.slotAt startF
  by_cases h : i < vs.length
  · rw [if_pos h, List.getElem?_append_left (by simpa using h), List.getElem?_map, List.getElem?_eq_getElem h]; rfl
  · rw [if_neg h, List.getElem?_append_right (by simpa using h), List.length_map]
    by_cases h2 : i - vs.length < ws.length
    · rw [List.getElem?_append_left h2, List.getElem?_eq_getElem h2]; rfl
    · rw [List.getElem?_append_right (by omega), List.getElem?_replicate, List.getElem?_eq_none (by omega)]
      split <;> rename_i z <;> (split at z <;> simp_all)
theorem startF_ok {G H : Hp} {vs : List V} {ws : List (Option V)} {ds : List D} {cs : List Sl} {s : Shared} (st : StOk T G H) (hv : DQA K G vs ds) (hc : CapOk K G ws cs) (hl : vs.length + ws.length ≤ N.length) : EOk (frOf P w K mg base T [] s H none) K G H (startF N vs ws) (start0 N.length (ds.map .fz ++ cs)) := by
  have lv := hv.len
  have lc := hc.len
  have noow : ∀ (i : Nat) (l : List D), (start0 N.length (ds.map Sl.fz ++ cs))[i]? = some (Sl.ow l) → False := fun i l h => by
    rcases start0_get h with z | z
    · by_cases q : i < ds.length
      · rw [List.getElem?_append_left (by simpa using q), List.getElem?_map] at z
        obtain ⟨d, _, e⟩ := Option.map_eq_some_iff.mp z
        cases e
      · rw [List.getElem?_append_right (by simpa using q)] at z
        obtain ⟨o, _, (⟨d, v, e, _⟩ | ⟨l', a, kvs, e, _⟩)⟩ := hc.get z <;> cases e
    · cases z
  refine ⟨st, ?_, fun i t e => ?_, fun i j a l l' _ _ h2 _ _ => (noow i l h2).elim, fun i a l _ h2 => (noow i l h2).elim, fun a ha => ?_⟩
  · unfold startF start0
    simp only [List.length_append, List.length_map, List.length_replicate]
    omega
  · rw [startF_slot hl]
    rcases start0_get e with z | rfl
    · by_cases q : i < ds.length
      · rw [if_pos (by omega)]
        rw [List.getElem?_append_left (by simpa using q), List.getElem?_map] at z
        obtain ⟨d, e1, rfl⟩ := Option.map_eq_some_iff.mp z
        obtain ⟨v, z1, z2⟩ := hv.at' e1
        exact ⟨v, z1, z2⟩
      · rw [if_neg (by omega)]
        rw [List.getElem?_append_right (by simpa using q), List.length_map] at z
        obtain ⟨o, e1, e2⟩ := hc.get z
        rw [lv, e1]
        rcases e2 with ⟨d, v, rfl, rfl, z2⟩ | ⟨l', a, kvs, rfl, rfl, z2⟩
        · exact ⟨v, rfl, z2⟩
        · exact ⟨a, kvs, rfl, z2⟩
    · trivial
  · have ha : none = some a := ha
    cases ha
theorem nested_run (S : NScope N ps fr NFn.scope) (hb : ∀ (doc pm ctv : Value) (us : List Value), us.length = ps.length → bindArgs (NFn.fd doc pm ctv) ⟨us, []⟩ = pure (ps.zip us))
    (hbody : ∀ (A : Around) (outer : List Env) (s : Shared) (H : Hp) (E : XK) (X : Cx) (F : Fr) (W : WX), X = ncx (L2.CX P w) P w K mg base N NFn f A outer s H E → F.T = T → F.np = 0 → Room k X.A → X.A.guards = some [] → Takes X W → PassesOwn (model P w) X.A X.env X.xe → DSs F W X NFn.body mb)
    {A : Around} {outer : List Env} {s : Shared} {G H : Hp} {us : List Value} {vs : List V} {ws : List (Option V)} {ds : List D} {cs : List Sl} {Q : VK} {E : XK} (hr : Room (k + 1) A) (hg : A.guards = some []) (e0 : Env0 P w K mg base A outer s H) (hf : H f = some (FnO f NFn)) (hc : H NFn.c = some (CodeO NFn.c NFn.qual))
    (C : CellsAt NFn.cl fr ws s.heap H) (r : Vals vs us) (hl : vs.length = ps.length) (st : StOk T G H) (hv : DQA K G vs ds) (hcap : CapOk K G ws cs) (hp : PostF T K mg none G H Q E (runF false N.length mb (ds.map .fz ++ cs))) :
    codeAny (model P w) A (.call (.ref f) ⟨us, []⟩) (CR (L2.CX P w) outer P w H s Q E) s := by
  have lim : s.heap.NoLimit := e0.mod.nolimit.keeps fun b o e => (e0.bs b o e).1
  obtain ⟨od, sl, doc, pm, ctv, ho⟩ := fnO_at e0.hok hf
  refine codeAny_call_function hr.depth ho rfl S.co S.gen rfl (codeO_at e0.hok hc) ?_
  rw [hb doc pm ctv us (by rw [← r.length]; exact hl)]
  refine wpAny_pure (wpAny_newFunctionEnv S.nocell (fun ⟨n, _⟩ hy => S.par n (List.of_mem_zip hy).1) (fun h₁ hns hsb => ⟨lim.fresh _ hsb, ?_⟩) S.kind)
  show codeAny _ _ (.func NFn.body (envF NFn f s.heap.objs.size)) _ _
  refine codeAny_func ?_
  have kp : ∀ b o, s.heap.get? b = some o → h₁.get? b = some o := fun b o e => hsb.extBut b o (Nat.ne_of_lt (Heap.lt_size e)) (Heap.get?_push_of_some _ e)
  have hr' : Room k (A.deeper (envF NFn f s.heap.objs.size)) := hr.deeper _
  have I : Inv (ncx (L2.CX P w) P w K mg base N NFn f A outer s H E) [] (startF N vs ws) H { s with heap := h₁, toks := s.toks + (ps.zip us).length } := inv_startN S hr.hd e0 hl r C hns kp
  have hpl : vs.length + ws.length ≤ N.length := by
    have q := congrArg List.length S.pre
    rw [List.length_take, List.length_append] at q
    rw [hl, C.len]; omega
  obtain ⟨F, hF⟩ : ∃ F, F = frOf P w K mg base T [] s H none := ⟨_, rfl⟩
  have tk : Takes (ncx (L2.CX P w) P w K mg base N NFn f A outer s H E) (fun cls d _ H => E cls d H) := takes_of (E₁ := fun e' s'' => L2.CX P w outer H s E e' s'') rfl rfl rfl rfl
  have dss := hbody A outer s H E _ F (fun cls d _ H => E cls d H) rfl (by rw [hF]; rfl) (by rw [hF]; rfl) hr' hg tk (passes_of (K := fun e s'' => L2.CX P w outer H s E e s'') (E₁ := fun e' s'' => L2.CX P w outer H s E e' s'') rfl)
  have hD : SI F K mg (fun cls d _ H => E cls d H) mb { nx := fun _ H' => Q .non H', rt := Q } (startF N vs ws) H := by
    refine ⟨G, start0 N.length (ds.map .fz ++ cs), by rw [hF]; exact startF_ok st hv hcap hpl, ?_⟩
    have no0 : ∀ b, ¬ Own (startF N vs ws) (start0 N.length (ds.map .fz ++ cs)) b := fun b o => by
      have e := startF_ok (P := P) (w := w) (mg := mg) (base := base) (s := s) st hv hcap hpl
      obtain ⟨i, l, h1, h2⟩ := o
      rcases start0_get h2 with z | z
      · by_cases q : i < ds.length
        · rw [List.getElem?_append_left (by simpa using q), List.getElem?_map] at z
          obtain ⟨d, _, e⟩ := Option.map_eq_some_iff.mp z
          cases e
        · rw [List.getElem?_append_right (by simpa using q)] at z
          obtain ⟨o, _, (⟨d, v, e, _⟩ | ⟨l', a, kvs, e, _⟩)⟩ := hcap.get z <;> cases e
      · cases z
    have rt : ∀ {G' H' : Hp} {σ' : L2.St} {δ' : Dl}, Step F K G H (startF N vs ws) (start0 N.length (ds.map .fz ++ cs)) G' H' σ' δ' → Ret T K none G H G' H' none := fun {G' H' σ' δ'} t =>
      ⟨t.g, by have := t.e.st; rw [hF] at this; exact this, fun b u hb _ ht => t.eff.keep b u hb (no0 b) ht, t.eff.dom, fun b u hb => by
        rcases t.gn b u hb with z | z | z | z
        · exact .inl z
        · exact .inr (.inl z)
        · exact absurd z (no0 b)
        · exact .inr (.inr z), fun a z => by cases z⟩
    have hp' : PostF T K mg none G H Q E (fin false (mb (start0 N.length (ds.map .fz ++ cs)))) := hp
    cases q : mb (start0 N.length (ds.map .fz ++ cs)) with
    | bad => rw [q] at hp'; exact hp'.elim
    | exc e δ' => rw [q] at hp'; exact fun cls d σ' H' G' t hx => hp' cls d H' G' (rt t) hx
    | ok fl δ' =>
      rw [q] at hp'
      intro σ' H' G' t
      cases fl with
      | bk => exact hp'.elim
      | ct => exact hp'.elim
      | nx => exact hp' .non H' G' (rt t) .non
      | rt r =>
        intro x rv nw
        have hp' : PostF T K mg none G H Q E (finR false δ' r none) := hp'
        cases r with
        | fz d => exact hp' x H' G' (rt t) rv
        | di l => exact hp' x H' G' (rt t) rv
        | cl f => exact hp'.elim
        | nd n => exact hp'.elim
        | ow l =>
          obtain ⟨p, vs', rfl, z1, z2, z3, z4, z5⟩ := rv
          refine hp' _ H' G' (rt t) ⟨p, vs', rfl, z1, z2, z3, ?_⟩
          rcases nw p rfl with z | z
          · exact z
          · exact absurd z (no0 p)
        | sl i =>
          unfold finR at hp'
          cases qs : δ'[i]? with
          | none => simp only [qs] at hp'; exact hp'.elim
          | some sl =>
            have z := t.e.sl i sl qs
            rw [rv.1] at z
            cases sl with
            | fz d =>
              simp only [qs] at hp'
              obtain ⟨v, e1, e2⟩ := z
              cases e1
              exact hp' _ H' G' (rt t) e2
            | ow l =>
              simp only [qs] at hp'
              obtain ⟨p, vs', e1, z1, z2, z3⟩ := z
              cases e1
              rw [if_neg (by simp)] at hp'
              refine hp' _ H' G' (rt t) ⟨p, vs', rfl, z1, z2, z3, ?_⟩
              rcases t.new p ⟨i, l, rv.1, qs⟩ with y | y
              · exact absurd y (no0 p)
              · exact y
            | _ => simp only [qs] at hp'; exact hp'.elim
  refine wpAny_mono (dss.ps.run [] _ (startF N vs ws) H _ I hD) (fun fl s' hs => ?_) fun e s' hs => hs
  have fin : ∀ {σ' : L2.St} {H' : Hp} {v : V} {u : Value}, Inv (ncx (L2.CX P w) P w K mg base N NFn f A outer s H E) [] σ' H' s' → L2.RelV v u → Q v H' → CE outer P w H s Q u s' :=
    fun {σ' H' v u} J rv q => ⟨v, H', J.os, J.bare, J.base, J.hok, rv, q⟩
  cases fl with
  | ret u =>
    obtain ⟨v, σ', H', J, rv, q⟩ := hs
    exact fin J rv q
  | next =>
    obtain ⟨σ', H', J, q⟩ := hs
    exact fin (v := V.non) (u := Value.none) J rfl q
  | brk =>
    obtain ⟨_, _, _, q⟩ := hs
    exact False.elim q
  | cont =>
    obtain ⟨_, _, _, q⟩ := hs
    exact False.elim q
/-- one nested def, handed on -/
def nb1 (js : List Nat) (n np : Nat) (mb : SM) : NB := fun i δ => if i = 0 then (match capS δ js with
  | some cs => some fun ds => if ds.length = np then runN n mb cs ds else .bad
  | none => none) else none
theorem NdC.one {F : Fr} {X : Cx} {d : NDef} {mk : Addr → NF} {cl : List (Str × Addr)} {js : List Nat} (hn : F.nds = [d]) (hob : d.ob = fun f c' => FnO f (mk c')) (hq : ∀ c', (mk c').qual = d.q) (hcc : ∀ c', (mk c').c = c') (hcl : ∀ c', (mk c').cl = cl) (cp : X.Ok → Caps X cl fr js)
    (S : ∀ c', NScope N ps fr (mk c').scope) (hb : ∀ (c' : Addr) (doc pm ctv : Value) (us : List Value), us.length = ps.length → bindArgs ((mk c').fd doc pm ctv) ⟨us, []⟩ = pure (ps.zip us)) (hk : k + 1 ≤ kc)
    (hbody : ∀ (f c' : Addr) (A : Around) (outer : List Env) (s : Shared) (H : Hp) (E : XK) (Y : Cx) (F' : Fr) (W : WX), Y = ncx (L2.CX X.prog X.w) X.prog X.w X.K X.mg X.base N (mk c') f A outer s H E → F'.T = F.T → F'.np = 0 → Room k Y.A → Y.A.guards = some [] → Takes Y W → PassesOwn (model X.prog X.w) Y.A Y.env Y.xe → DSs F' W Y (mk c').body mb) :
    NdC F X (nb1 js N.length ps.length mb) := by
  intro n δ φ hφ d' hd' pins s σ G H f c' I e hf hc
  unfold nb1 at hφ
  split at hφ
  · rename_i hn0
    subst hn0
    rw [hn] at hd'
    have hd' : some d = some d' := hd'
    cases hd'
    cases q : capS δ js with
    | none => rw [q] at hφ; cases hφ
    | some cs =>
      rw [q] at hφ
      cases hφ
      have hcap := capS_ok e q
      have hC : CellsAt cl fr (js.map (slotAt σ)) s.heap H := cells_of I (cp I.ok)
      intro Z W hP hw hK hmg hbase hs0 hH0 hex hcalm hroom hguards tk
      rw [hob] at hf
      refine ⟨fun pinsZ s1 σZ HZ GZ IZ st g1 => fnAt_of IZ (st.sub _ _ (g1 _ _ hf)), fun pinsZ s1 σZ HZ GZ us vs ds Q IZ st g1 r hv hp => ?_⟩
      have hE : HZ f = some (FnO f (mk c')) := st.sub _ _ (g1 _ _ hf)
      have hcode : HZ (mk c').c = some (CodeO (mk c').c (mk c').qual) := by rw [hcc, hq]; exact st.sub _ _ (g1 _ _ hc)
      by_cases hlen : ds.length = ps.length
      · rw [if_pos hlen] at hp
        have un := IZ.base
        rw [hs0, hH0, hex] at un
        have C2 : CellsAt (mk c').cl fr (js.map (slotAt σ)) s1.heap HZ := by rw [hcl]; exact cells_un hC un
        have hcapZ : CapOk Z.K GZ (js.map (slotAt σ)) cs := by rw [hK]; exact hcap.up g1
        have hlv : vs.length = ps.length := by rw [hv.len]; exact hlen
        have hb2 : ∀ (A : Around) (outer : List Env) (s : Shared) (H : Hp) (E : XK) (Y : Cx) (F' : Fr) (W : WX), Y = ncx (L2.CX Z.prog Z.w) Z.prog Z.w Z.K Z.mg Z.base N (mk c') f A outer s H E → F'.T = F.T → F'.np = 0 → Room k Y.A → Y.A.guards = some [] → Takes Y W → PassesOwn (model Z.prog Z.w) Y.A Y.env Y.xe → DSs F' W Y (mk c').body mb := by
          rw [hP, hw, hK, hmg, hbase]
          exact hbody f c'
        have hq2 : PostF F.T Z.K Z.mg none GZ HZ Q (fun cls dd H' => W cls dd σZ H') (runF false N.length mb (ds.map Sl.fz ++ cs)) := by
          unfold runN at hp
          cases qq : runF false N.length mb (ds.map Sl.fz ++ cs) with
          | bad => rw [qq] at hp; exact hp.elim
          | exc e o =>
            rw [qq] at hp
            exact fun cls d H' G' t rx => hp cls d H' G' ⟨t.g, t.st, t.keep, t.dom, t.gn, fun a z => by cases z⟩ rx
          | ok r o =>
            rw [qq] at hp
            cases r with
            | fz d => exact fun x H' G' t ro => hp x H' G' ⟨t.g, t.st, t.keep, t.dom, t.gn, fun a z => by cases z⟩ ro
            | ow l => exact hp.elim
            | di l => exact hp.elim
        have rc := nested_run (T := F.T) (S c') (hb c') hb2 (hroom.mono hk) hguards IZ.env0 hE hcode C2 r hlv st hv hcapZ hq2
        refine wpAny_call (codeAny_mono rc fun rr s' hqq => ?_)
        cases rr with
        | error e => exact tk e s' (XE.of_call IZ (fun _ _ _ z => z) hqq)
        | ok fl =>
          cases fl with
          | ret u => exact IZ.after hqq
          | next => exact False.elim hqq
          | brk => exact False.elim hqq
          | cont => exact False.elim hqq
      · rw [if_neg hlen] at hp; exact hp.elim
  · cases hφ
end
end MP

set_option Elab.async false
set_option linter.all false
set_option maxRecDepth 100000
set_option maxHeartbeats 2000000
namespace MP
open PySem PySem.Spec PyProof.Rows L2 LamX NdefX

/-! ### the law's call, from the caller of all (after LamX.law_callTs: the promise at the caller's own rooms) -/
theorem law_callG {P : Program} {w : World} {K : PySem.W.Frag} {mg mb : Str → Option Value} {CX : CXT} {fa a : Addr} {cs : List (Addr × Addr)} {s₁ : Shared} {vs : List Value} {ns : List Int}
    (KX : K.In s₁.heap) (hns : s₁.heap.Ns mainGlobals mg) (hb : s₁.heap.Ns builtinsNs mb) (hbb : ∀ x : Str, x ≠ "__name__" → mb x = bootBuiltins x) (hlim : s₁.heap.NoLimit) (hg : s₁.gens = #[])
    (hT : ∀ p ∈ cs, s₁.heap.get? p.2 = some { cls := .none, data := .fields #[] }) (nT : ∀ p ∈ cs, K.lookup p.2 = none) (C : ∀ p ∈ cs, PySem.W.CodeHd s₁.heap p.1 p.2)
    (hbm : ∃ (bm : Addr) (ob : Obj), mg "__builtins__" = some (.ref bm) ∧ bm ≠ builtinsNs ∧ s₁.heap.get? bm = some ob ∧ ob.cls = .type "module" ∧ ob.dict = some builtinsNs ∧ ob.data = .plain)
    (ha : s₁.heap.get? a = some { cls := .type "list", data := .seq vs.toArray }) (hi : IntsAre vs ns) (hl : ns.length ≤ sizeLine) 
    (F : ∀ (base : Heap) (H : Hp), K.In base → base.Ns mainGlobals mg → (∀ p ∈ cs, TabB base mg p.1 p.2) → (∀ p ∈ cs, H p.2 = some (.tbl #[])) → SqL K H a (ns.map V.int) → Env0 P w K mg base callerA [] s₁ H →
      codeAny (model P w) callerA (.call (.ref fa) ⟨[.ref a], []⟩) (CR CX [] P w H s₁ (fun v _ => v = .bl true) fun _ _ _ => False) s₁)
    (hCX : ∀ H e s', CX [] H s₁ (fun _ _ _ => False) e s' → False) :
    codeAny (model P w) callerA (.call (.ref fa) ⟨[.ref a], []⟩) (fun r s' => r = .ok (.ret (.bool true)) ∧ OldK s₁.heap s'.heap ∧ s'.os = s₁.os ∧ AllBare s'.gens) s₁ := by
  have rv := vals_ints hi
  have lenV := hi.length
  have isT : ∀ b : Addr, b ∈ cs.map (·.2) → s₁.heap.get? b = some { cls := .none, data := .fields #[] } := fun b hb => by
    obtain ⟨p, hp, e⟩ := List.mem_map.mp hb
    rw [← e]
    exact hT p hp
  have aT : a ∉ cs.map (·.2) := fun z => by
    have q := isT a z
    rw [ha] at q
    have z' : Data.seq vs.toArray _ = Data.fields #[] := congrArg Obj.data (Option.some.inj q)
    cases z'
  have memT : ∀ p ∈ cs, p.2 ∈ cs.map (·.2) := fun p hp => List.mem_map.mpr ⟨p, hp, rfl⟩
  -- from an abstract heap in which nothing but the script and the tables may be tracked
  have core : ∀ H : Hp, (∀ p ∈ cs, H p.2 = some (.tbl #[])) → (∀ b, H b = none ∨ b ∈ cs.map (·.2) ∨ ∃ o xs, H b = some (.frz o (.lst xs))) → SqL K H a (ns.map V.int) → HOk P w H s₁.heap → (∀ b, H b ≠ none → b = a ∨ b ∈ cs.map (·.2)) → (H a ≠ none → K.lookup a = none) →
      codeAny (model P w) callerA (.call (.ref fa) ⟨[.ref a], []⟩) (fun r s' => r = .ok (.ret (.bool true)) ∧ OldK s₁.heap s'.heap ∧ s'.os = s₁.os ∧ AllBare s'.gens) s₁ := by
    intro H hH hO hS hok hA hK
    have base_of : ∀ {b : Addr} {o : Obj}, s₁.heap.get? b = some o → H b = none → (hidT s₁.heap H).get? b = some o := fun e n => hidT_get e n
    have noD : ∀ {b : Addr} {o : Obj}, s₁.heap.get? b = some o → (∀ vs n, o.data ≠ .seq vs n) → o.data ≠ .fields #[] → H b = none := fun {b o} e h1 h2 => by
      cases q : H b with
      | none => rfl
      | some u =>
        rcases hA b (by rw [q]; simp) with e' | e'
        · rw [e', ha] at e
          cases e
          exact (h1 _ _ rfl).elim
        · rw [isT b e'] at e
          cases e
          exact (h2 rfl).elim
    have noA : ∀ {b : Addr} {o : Obj} {es : Array DictEntry} {ep : Nat}, s₁.heap.get? b = some o → o.data = .dict es ep → H b = none := fun {b o es ep} e d => by
      refine noD e (fun vs n z => ?_) fun z => ?_
      · rw [d] at z
        cases z
      · rw [d] at z
        cases z
    have nsK : ∀ {b : Addr} {m : Str → Option Value}, s₁.heap.Ns b m → (hidT s₁.heap H).Ns b m := fun {b m} ⟨o, es, ep, e, d, r⟩ => ⟨o, es, ep, base_of e (noA e d), d, r⟩
    have hKb : K.In (hidT s₁.heap H) := fun b o e => base_of (KX b o e) (by
      cases q : H b with
      | none => rfl
      | some u =>
        rcases hA b (by rw [q]; simp) with e' | e'
        · rw [e'] at e q
          rw [hK (by rw [q]; simp)] at e
          cases e
        · obtain ⟨p, hp, ep⟩ := List.mem_map.mp e'
          rw [← ep, nT p hp] at e
          cases e)
    have hM : L2.Mod K mg (hidT s₁.heap H) := ⟨hKb, nsK hns, ⟨mb, nsK hb, hbb⟩, let ⟨mc, h1, h2⟩ := hlim; ⟨mc, nsK h1, h2⟩⟩
    have TB : ∀ p ∈ cs, TabB (hidT s₁.heap H) mg p.1 p.2 := fun p hp => by
      have hTp := hT p hp
      refine ⟨?_, ?_, fun z => ?_⟩
      · obtain ⟨o, us, file, tf, flags, tg, inF, text, tt, e1, r1, r2, r3, r4, r5, r6, r7, r8, hne⟩ := C p hp
        refine ⟨o, us, file, tf, flags, tg, inF, text, tt, base_of e1 (noD e1 (fun vs n z => ?_) fun z => ?_), r1, r2, r3, r4, r5, r6, r7, r8, hne⟩
        · rw [r2] at z
          cases z
        · rw [r2] at z
          cases z
          simp at r3
      · obtain ⟨bm, ob, b1, b2, b3, b4, b5, b6⟩ := hbm
        have nG : bm ≠ mainGlobals := fun q => by
          obtain ⟨o, es, ep, e, hd, _⟩ := hns
          rw [q, e] at b3
          cases b3
          rw [hd] at b6
          cases b6
        have nP : bm ≠ p.2 := fun q => by
          rw [q, hTp] at b3
          cases b3
          cases b6
        refine ⟨bm, ob, b1, b2, nG, nP, base_of b3 (noD b3 (fun vs n z => ?_) fun z => ?_), b4, b5, b6⟩
        · rw [b6] at z
          cases z
        · rw [b6] at z
          cases z
      · obtain ⟨o, es, ep, e, hd, _⟩ := hns
        rw [z, hTp] at e
        cases e
        cases hd
    have e0 : Env0 P w K mg (hidT s₁.heap H) callerA [] s₁ H := ⟨rfl, hM, fun b o e => of_hidT e, Nat.le_of_eq (hidT_size _ _), trivial, fun b hb => absurd (show b ∈ ([] : List Addr) from hb) (by simp), hok, .of_eq hg⟩
    refine codeAny_mono (F _ H hKb (nsK hns) TB hH hS e0) fun r s' h => ?_
    cases r with
    | error e => exact (hCX H e s' h).elim
    | ok fl =>
      cases fl with
      | next => exact False.elim h
      | brk => exact False.elim h
      | cont => exact False.elim h
      | ret u =>
        obtain ⟨v, H', os, bare, un, hok', r', q⟩ := h
        have q' : v = .bl true := q
        subst q'
        obtain rfl : u = Value.bool true := r'
        have key : ∀ b o, b ∉ cs.map (·.2) → s₁.heap.get? b = some o → s'.heap.get? b = some o := fun b o nb e => by
          cases q : H b with
          | none => exact un.keep b o e q (by intro z; exact absurd (show b ∈ ([] : List Addr) from z) (by simp)) (by simp)
          | some u =>
            rcases hO b with z | z | ⟨ob, xs, z⟩
            · rw [q] at z; cases z
            · exact absurd z nb
            · have z2 := un.frzs b ob _ z
              obtain ⟨e1, _⟩ := hok b _ z
              obtain ⟨e2, _⟩ := hok' b _ z2
              rw [e] at e1; cases e1
              exact e2
        have grown : ∀ p ∈ cs, ∃ more : Array Value, s'.heap.get? p.2 = some { cls := .none, data := .fields more } := fun p hp => by
          obtain ⟨more, z⟩ := un.tbls p.2 #[] (hH p hp)
          exact ⟨_, hok' p.2 _ z⟩
        refine ⟨rfl, ⟨fun b o e => ?_, fun b o e => ?_⟩, os, bare⟩
        · by_cases hb : b ∈ cs.map (·.2)
          · obtain ⟨p, hp, ep⟩ := List.mem_map.mp hb
            obtain ⟨more, hm⟩ := grown p hp
            rw [← ep] at e ⊢
            rw [hT p hp] at e
            cases e
            exact .inr (.inl ⟨((C p hp).tab (hT p hp)).isCodeTable, rfl, #[], more, rfl, by rw [Array.empty_append]; exact hm⟩)
          · exact .inl (key b o hb e)
        · by_cases hb : b ∈ cs.map (·.2)
          · obtain ⟨p, hp, ep⟩ := List.mem_map.mp hb
            obtain ⟨more, hm⟩ := grown p hp
            rw [← ep]
            exact ⟨_, hm⟩
          · exact ⟨o, key b o hb e⟩
  cases hk : K.lookup a with
  | some o =>
    have e := KX a o hk
    rw [ha] at e
    cases e
    refine core (fun b => if b ∈ cs.map (·.2) then some (.tbl #[]) else none) (fun p hp => if_pos (memT p hp)) (fun b => ?_) (.inr ⟨_, vs.toArray, _, hk, rfl, rfl, rfl, by rw [List.size_toArray, lenV]; exact hl, by simpa using rv⟩) (fun b u z => ?_) (fun b z => ?_) fun z => absurd (show (if a ∈ cs.map (·.2) then some (HO.tbl #[]) else none) = none from if_neg aT) z
    · by_cases hb : b ∈ cs.map (·.2)
      · exact .inr (.inl hb)
      · exact .inl (if_neg hb)
    · by_cases hb : b ∈ cs.map (·.2)
      · have z' := (if_pos hb).symm.trans z
        cases z'
        exact isT b hb
      · have z' := (if_neg hb).symm.trans z
        cases z'
    · by_cases hb : b ∈ cs.map (·.2)
      · exact .inr hb
      · exact absurd (if_neg hb) z
  | none =>
    refine core (fun b => if b = a then some (.frz { cls := .type "list", data := .seq vs.toArray } (.lst (ns.map V.int))) else if b ∈ cs.map (·.2) then some (.tbl #[]) else none) (fun p hp => (if_neg (show ¬ p.2 = a from fun z => aT (by rw [← z]; exact memT p hp))).trans (if_pos (memT p hp))) (fun b => ?_)
      (.inl (.inr ⟨{ cls := .type "list", data := .seq vs.toArray }, if_pos rfl⟩)) (fun b u z => ?_) (fun b z => ?_) fun _ => hk
    · by_cases hb : b = a
      · exact .inr (.inr ⟨_, _, if_pos hb⟩)
      · by_cases hb2 : b ∈ cs.map (·.2)
        · exact .inr (.inl hb2)
        · exact .inl ((if_neg hb).trans (if_neg hb2))
    · by_cases hb : b = a
      · have z' := (if_pos hb).symm.trans z
        cases z'
        rw [hb]
        exact ⟨ha, by rw [List.length_map]; exact hl, vs, _, rv, ha⟩
      · have z1 := (if_neg hb).symm.trans z
        by_cases hb2 : b ∈ cs.map (·.2)
        · have z' := (if_pos hb2).symm.trans z1
          cases z'
          exact isT b hb2
        · have z' := (if_neg hb2).symm.trans z1
          cases z'
    · by_cases hb : b = a
      · exact .inl hb
      · by_cases hb2 : b ∈ cs.map (·.2)
        · exact .inr hb2
        · exact absurd ((if_neg hb).trans (if_neg hb2)) z

theorem guards0 : callerA.guards = some [] := by rfl
/-- what stands at the head, of the law and its tables -/
structure LawC (l : PySem.W.OpenLaw) (w : World) (K : PySem.W.Frag) (k n : Nat) (x : Str) (mg : Str → Option Value) (fa : Addr) (h : Heap) : Prop where
  ex : ∃ (fd : FuncData) (cs : List (Addr × Addr)) (T : List NTab) (φ : List Sl → RF), (∀ p ∈ cs, h.get? p.2 = some { cls := .none, data := .fields #[] }) ∧ (∀ p ∈ cs, K.lookup p.2 = none) ∧ (∀ p ∈ cs, PySem.W.CodeHd h p.1 p.2) ∧ (∀ (s : Shared) (u : Value), BindsTo s fd ⟨[u], []⟩ [(x, u)]) ∧
    (∀ p ∈ T, ∃ c, (c, p.1) ∈ cs) ∧ (∀ ns : List Int, ns.length ≤ n → (∀ z ∈ ns, Builtin.Int.intBits z ≤ 1048576) → ∃ o, φ [.fz (.list (ns.map .int))] = .ok (.fz (.bool true)) o) ∧
    ∀ base : Heap, K.In base → base.Ns mainGlobals mg → (∀ p ∈ cs, TabB base mg p.1 p.2) → FnC l.prog w K mg base T k fa fd [x] false φ
/-- all but the tables -/
def noT (H : Hp) : Hp := fun b => match H b with
  | some (.tbl _) => none
  | o => o
theorem noT_of {H : Hp} {b : Addr} {o : HO} (h : noT H b = some o) : H b = some o ∧ NoTbl o := by
  unfold noT at h
  split at h
  · cases h
  · rename_i hn
    exact ⟨h, fun ps z => hn ps (by rw [h, z])⟩
theorem noT_to {H : Hp} {b : Addr} {o : HO} (h : H b = some o) (n : NoTbl o) : noT H b = some o := by
  unfold noT
  rw [h]
  cases o <;> first | rfl | exact absurd rfl (n _)
theorem ints_dqa {K : PySem.W.Frag} {G : Hp} : ∀ ns : List Int, DQA K G (ns.map V.int) (ns.map PyData.int)
  | [] => .nil
  | n :: ns => .cons (.int n) (ints_dqa ns)
theorem walk_law {l : PySem.W.OpenLaw} {n k : Nat} {q : Program} {loose : List Str} {XP : (Str → Option Value) → Heap → Prop} {YP : World → Heap → Prop} {d : DefRec} {K : Params → PySem.W.Frag} {x : Str}
    (hn : l.most = some n) (hn2 : n ≤ sizeLine) (hdf : d.params.defaults = []) (hr : Room k callerA) (hY : ∀ (w : World) (h : Heap), YP w h → (K w.params).In h)
    (F : ∀ (w : World) (mg mb : Str → Option Value) (fa : Addr) (s₀ : Shared) (h : Heap), PySem.W.Ground q loose [] XP w s₀ mg mb h → YP w h → (K w.params).In h → h.Ns mainGlobals mg → mg d.name = some (.ref fa) → LawC l w (K w.params) k n x mg fa h) :
    PySem.W.WalkO q loose XP YP l.row.toRowW d [] (fun f vs => PySem.call f vs) := by
  refine Att.attach_callB hn hdf fun w s₀ s₁ mg mb fa o pm cd doc a vs ns G Y ho hd hcd hmg hobj hints hlen hbits hg => ?_
  have KX := hY w _ Y
  obtain ⟨fd, cs, T, φ, hT, nT, C, hb, hTT, hφ, hF⟩ := (F w mg mb fa s₀ _ G Y KX G.T.g hmg).ex
  refine law_callG (CX := L2.CX l.prog w) KX G.T.g G.T.b G.T.builtins G.T.nolimit hg hT nT C G.T.bmain hobj hints (Nat.le_trans hlen hn2) (fun base H hKb hns hTB hH hS e0 => ?_) (fun H e s' z => ?_)
  · obtain ⟨o, hok⟩ := hφ ns hlen hbits
    have hrd : RdK (K w.params) (noT H) a (ns.map V.int) := by
      rcases hS with (h | ⟨o, h⟩) | ⟨o, its, m, h1, h2, h3, h4, h5, h6⟩
      · exact .inl (.inl (noT_to h fun ps z => by cases z))
      · exact .inl (.inr ⟨o, noT_to h fun ps z => by cases z⟩)
      · have z := KX _ _ h1
        rw [hobj] at z
        have z2 := Option.some.inj z
        subst z2
        have h4' : Data.seq vs.toArray _ = .seq its m := h4
        cases h4'
        exact .inr ⟨_, _, h1, h5, h6⟩
    have st : StOk T (noT H) H := by
      refine ⟨fun b o h => (noT_of h).1, fun p hp => ?_, fun b ps h => (noT_of h).2 ps rfl⟩
      obtain ⟨c, hc⟩ := hTT p hp
      exact TabN.nil (hH _ hc)
    refine (hF base hKb hns hTB).run callerA [] s₁ _ H ⟨[.ref a], []⟩ [.ref a] [.ref a] [.fz (.list (ns.map .int))] none _ _ hr guards0 e0 (hb s₁ (.ref a)) (.cons rfl .nil) rfl st rfl (.cons (.lst hrd (ints_dqa ns)) .nil) ?_
    rw [hok]
    intro v H' G' t ro
    cases ro
    rfl
  · obtain ⟨_, _, _, _, _, _, _, _, _, _, _, _, z⟩ := z
    exact z
end MP

set_option Elab.async false
set_option linter.all false
set_option maxRecDepth 100000
set_option maxHeartbeats 2000000
namespace MP
open PySem PySem.Spec PyProof.Rows L2 LamX NdefX

/-! ### a def of the module, as it stands behind the top -/
structure FunX (K : PySem.W.Frag) (x : Str) (st : Stmt) (dV : Value) (f : Addr) (fd : FuncData) (cd : Value) : Prop where
  ex : ∃ (oc : Value) (od : Option Addr) (kV doc pm : Value) (an : Option Addr) (ct : Value) (osl : Array (Option Value)), fd = PySem.W.fnOf x x (defArgs st) (defBody st) (defScope st) dV kV doc pm an cd ct ∧ K.lookup f = some ⟨oc, od, .func fd, osl⟩ ∧ PySem.W.codeIn K cd x = true
  kp : PySem.W.keepIn K (.ref f) = true
theorem FunX.mk' {K : PySem.W.Frag} {x : Str} {st : Stmt} {dV : Value} {f : Addr} {cd oc kV doc pm ct : Value} {od an : Option Addr} {osl : Array (Option Value)} (lk : K.lookup f = some ⟨oc, od, .func (PySem.W.fnOf x x (defArgs st) (defBody st) (defScope st) dV kV doc pm an cd ct), osl⟩)
    (hc : PySem.W.codeIn K cd x = true) (kp : PySem.W.keepIn K (.ref f) = true) : FunX K x st dV f (PySem.W.fnOf x x (defArgs st) (defBody st) (defScope st) dV kV doc pm an cd ct) cd := ⟨⟨oc, od, kV, doc, pm, an, ct, osl, rfl, lk, hc⟩, kp⟩
section
variable {P : Program} {w : World} {K : PySem.W.Frag} {mg : Str → Option Value} {base : Heap} {T : List NTab} {k : Nat} {x : Str} {st : Stmt} {dV cd : Value} {f : Addr} {fd : FuncData} {N ps ks : List Str} {io : Bool} {mb : SM}
theorem FunX.ok (F0 : FunX K x st dV f fd cd) (S : FnScope N ps (defScope st)) (nds : Cx → List NDef)
    (hbody : ∀ (A : Around) (outer : List Env) (s : Shared) (H : Hp) (E : XK) (X : Cx) (F : Fr) (W : WX), X = cxOf (L2.CX P w) P w K mg base N x (defScope st) f cd A outer s H E → F.T = T → F.nds = nds X → F.np = (if io = true then 1 else 0) → Room k X.A → X.A.guards = some [] → Takes X W → (Room kc X.A → CloOk F W X) → PassesOwn (model P w) X.A X.env X.xe → DSs F W X (defBody st) mb) :
    FnC P w K mg base T (k + 1) f fd ps io (runF io N.length mb) := by
  obtain ⟨oc, od, kV, doc, pm, an, ct, osl, rfl, lk, hc⟩ := F0.ex
  exact FnC.of nds lk hc S hbody
/-- positional arguments, no default -/
theorem FunX.b0 (F0 : FunX K x st dV f fd cd) (h : ∀ (kV doc pm : Value) (an : Option Addr) (ct : Value) (us : List Value), us.length = ps.length → bindArgs (PySem.W.fnOf x x (defArgs st) (defBody st) (defScope st) dV kV doc pm an cd ct) ⟨us, []⟩ = pure (ps.zip us)) :
    ∀ (s : Shared) (us : List Value), K.In s.heap → (us ++ []).length = ps.length → BindsTo s fd ⟨us, []⟩ (ps.zip (us ++ [])) := by
  obtain ⟨oc, od, kV, doc, pm, an, ct, osl, rfl, lk, hc⟩ := F0.ex
  intro s us _ hl
  rw [List.append_nil] at hl ⊢
  exact .of_eq (h kV doc pm an ct us hl)
/-- keywords alone -/
theorem FunX.bk {is : List Nat} (F0 : FunX K x st dV f fd cd) (h : ∀ (kV doc pm : Value) (an : Option Addr) (ct : Value) (us : List Value), us.length = ks.length → bindArgs (PySem.W.fnOf x x (defArgs st) (defBody st) (defScope st) dV kV doc pm an cd ct) ⟨[], ks.zip us⟩ = pure (ps.zip (pick us is))) :
    ∀ (s : Shared) (us : List Value), K.In s.heap → us.length = ks.length → BindsTo s fd ⟨[], ks.zip us⟩ (ps.zip (pick us is)) := by
  obtain ⟨oc, od, kV, doc, pm, an, ct, osl, rfl, lk, hc⟩ := F0.ex
  intro s us _ hl
  exact .of_eq (h kV doc pm an ct us hl)
/-- the defaults fill up: j of them are given -/
theorem FunX.bd {Td : Addr} {o : Obj} {its : List Value} {m n : Nat} (F0 : FunX K x st (.ref Td) f fd cd) (lT : K.lookup Td = some o) (oT : o.data = .seq its.toArray m)
    (h : ∀ (kV doc pm : Value) (an : Option Addr) (ct : Value) (us : List Value), us.length = n → ∃ k, bindArgs (PySem.W.fnOf x x (defArgs st) (defBody st) (defScope st) (.ref Td) kV doc pm an cd ct) ⟨us, []⟩ = seqItems? (.ref Td) >>= k ∧ k (some its.toArray) = pure (ps.zip (us ++ its))) (hn : n + its.length = ps.length) :
    ∀ (s : Shared) (us : List Value), K.In s.heap → (us ++ its).length = ps.length → BindsTo s fd ⟨us, []⟩ (ps.zip (us ++ its)) := by
  obtain ⟨oc, od, kV, doc, pm, an, ct, osl, rfl, lk, hc⟩ := F0.ex
  intro s us X hl
  obtain ⟨k, e1, e2⟩ := h kV doc pm an ct us (by rw [List.length_append] at hl; omega)
  refine L2.BindsTo.of_looks fun M => ?_
  rw [e1]
  exact looks_items X lT oT (.of_pure e2)
end
/-! ### constants of the module -/
theorem GlobD.int {K : PySem.W.Frag} {mg : Str → Option Value} {x : Str} {i : Int} {t : Tok} (h : mg x = some (.int i t)) : GlobD K mg x (.int i) := ⟨_, .int i, h, ⟨t, rfl⟩, .int i⟩
theorem GlobD.str {K : PySem.W.Frag} {mg : Str → Option Value} {x z : Str} {t : Tok} (h : mg x = some (.str z t)) : GlobD K mg x (.str z) := ⟨_, .str z, h, ⟨t, rfl⟩, .str z⟩
def strsB : List Str → List Value → Bool
  | [], [] => true
  | x :: xs, .str y _ :: vs => decide (x = y) && strsB xs vs
  | _, _ => false
theorem strsB_ok {K : PySem.W.Frag} {G : Hp} : ∀ {xs : List Str} {vs : List Value}, strsB xs vs = true → Vals (xs.map V.str) vs ∧ DQA K G (xs.map V.str) (xs.map PyData.str)
  | [], [], _ => ⟨.nil, .nil⟩
  | x :: xs, .str y t :: vs, h => by
    unfold strsB at h
    obtain ⟨h1, h2⟩ := Bool.and_eq_true_iff.mp h
    have e : x = y := of_decide_eq_true h1
    subst e
    obtain ⟨a, b⟩ := strsB_ok (K := K) (G := G) h2
    exact ⟨.cons ⟨t, rfl⟩ a, .cons (.str x) b⟩
  | [], _ :: _, h => by cases h
  | _ :: _, [], h => by cases h
  | _ :: _, .none :: _, h => by cases h
  | _ :: _, .ellipsis :: _, h => by cases h
  | _ :: _, .notImplemented :: _, h => by cases h
  | _ :: _, .bool _ :: _, h => by cases h
  | _ :: _, .int _ _ :: _, h => by cases h
  | _ :: _, .float _ _ :: _, h => by cases h
  | _ :: _, .bytes _ _ :: _, h => by cases h
  | _ :: _, .ref _ :: _, h => by cases h
  | _ :: _, .type _ :: _, h => by cases h
  | _ :: _, .builtin _ :: _, h => by cases h
theorem GlobD.strs {K : PySem.W.Frag} {mg : Str → Option Value} {x : Str} {a : Addr} {o : Obj} {its : Array Value} {n : Nat} {xs : List Str} (h : mg x = some (.ref a)) (l : K.lookup a = some o) (hc : o.cls = .type "tuple") (hd : o.data = .seq its n) (hz : its.size ≤ sizeLine) (hs : strsB xs its.toList = true) : GlobD K mg x (.tuple (xs.map .str)) := by
  obtain ⟨h1, h2⟩ := strsB_ok (K := K) (G := fun _ => none) hs
  exact ⟨_, .ref a, h, rfl, .tup (.inr ⟨o, its, n, l, hc, hd, hz, h1⟩) h2⟩
theorem Dfl.empty {K : PySem.W.Frag} {a : Addr} {o : Obj} {n : Nat} (l : K.lookup a = some o) (hc : o.cls = .type "tuple") (hd : o.data = .seq #[] n) : Dfl K [.ref a] [.ref a] [.tuple []] :=
  .cons rfl (.tup (.inr ⟨o, #[], n, l, hc, hd, Nat.zero_le _, .nil⟩) .nil) .nil
theorem takesF {X : Cx} : Takes X WF := takes0
/-- an expression that is not looked at: the walk does not come there -/
def badE : EM := fun _ => .bad
def badS : SM := fun _ => .bad
def badT : TM := fun _ => .bad
section
variable {F : Fr} {W : WX} {X : Cx}
theorem DS.bad {st : Stmt} : DS F W X st badS := ⟨⟨fun _ _ _ _ _ _ ⟨_, _, _, h⟩ => h.elim⟩⟩
theorem DSs.bad {st : List Stmt} : DSs F W X st badS := ⟨⟨fun _ _ _ _ _ _ ⟨_, _, _, h⟩ => h.elim⟩⟩
theorem DE.bad {e : Expr} : DE F W X e badE := ⟨⟨fun _ _ _ _ _ _ ⟨_, _, _, h⟩ => h.elim⟩⟩
/-! ### a <= b <= c -/
def chainM (f g : D → D → ORes) (ma mb mc : EM) : EM := fun δ => (ma δ).bind fun r1 δ1 => (mb δ1).bind fun r2 δ2 => match r1.get δ2, r2.get δ2 with
  | some d1, some d2 => match f d1 d2 with
    | .v (.bool true) => (mc δ2).bind fun r3 δ3 => match r2.get δ3, r3.get δ3 with
      | some d2, some d3 => (g d2 d3).res δ3
      | _, _ => .bad
    | .v (.bool false) => .ok (.fz (.bool false)) δ2
    | _ => .bad
  | _, _ => .bad
/-! ### slices -/
def cutD (l : List D) (lo hi : Option Int) : List D := (l.drop (HT.sIx l.length 0 lo)).take (HT.sIx l.length l.length hi - HT.sIx l.length 0 lo)
def slD (d : D) (lo hi : Option Int) : ORes := match d with
  | .list l => .nl (cutD l lo hi)
  | .tuple l => .v (.tuple (cutD l lo hi))
  | .str z => if z.length ≤ line then .v (.str (L2.cutS z lo hi)) else .bad
  | _ => .bad
abbrev OM := Option EM
def partM (o : OM) (δ : Dl) (k : Option Int → Dl → Res Rv) : Res Rv := match o with
  | none => k none δ
  | some m => (m δ).bind fun r δ1 => match r.get δ1 with
    | some (.int i) => k (some i) δ1
    | _ => .bad
def slM (m : EM) (lo hi : OM) : EM := fun δ => (m δ).bind fun r δ1 => partM lo δ1 fun l δ2 => partM hi δ2 fun u δ3 => match r.get δ3 with
  | some d => (slD d l u).res δ3
  | none => .bad
/-- a part of a slice -/
def TOI (F : Fr) (K : PySem.W.Frag) (mg : Str → Option Value) (W : WX) (o : OM) : TO := fun σ H R => ∃ (G0 : Hp) (δ0 : Dl) (G : Hp) (H0 : Hp) (δ : Dl) (k : Option Int → Dl → Res Rv) (Q : VK), Step F K G0 H0 σ δ0 G H σ δ ∧ Post F K mg W G0 H0 σ δ0 Q (partM o δ k) ∧
  ∀ i H' G' δ', Step F K G0 H0 σ δ0 G' H' σ δ' → Step F K G H σ δ G' H' σ δ' → Post F K mg W G0 H0 σ δ0 Q (k i δ') → R i H'
structure DO (F : Fr) (W : WX) (X : Cx) (e : Option Expr) (o : OM) : Prop where
  po : PO X e (TOI F X.K X.mg W o)
theorem DO.none : DO F W X Option.none Option.none := ⟨⟨fun pins s σ H Q I ⟨G0, δ0, G, H0, δ, k, Q2, sb, h, hk⟩ => po_none.run pins s σ H Q I (hk Option.none H G δ sb (Step.refl sb.e) h)⟩⟩
theorem DO.some {e : Expr} {m : EM} (he : DE F W X e m) : DO F W X (Option.some e) (Option.some m) := by
  refine ⟨⟨fun pins s σ H Q I ⟨G0, δ0, G, H0, δ, k, Q2, sb, h, hk⟩ => (po_some he.pe).run pins s σ H Q I ?_⟩⟩
  have h' : Post F X.K X.mg W G0 H0 σ δ0 Q2 ((m δ).bind fun r δ1 => match r.get δ1 with | Option.some (.int i) => k (Option.some i) δ1 | _ => .bad) := h
  refine ⟨G, δ, sb.e, Post.mono (h'.bind sb) fun x H1 ⟨G1, δ1, v1, s1, rv1, nw1, h1⟩ => ?_⟩
  split at h1
  · rename_i i g
    exact ⟨i, (rv1.get s1.e g).of_int, hk _ _ _ _ (sb.trans s1) s1 h1⟩
  · exact h1.elim
theorem DQA.cut {K : PySem.W.Frag} {G : Hp} {vs : List V} {ds : List D} (h : DQA K G vs ds) (lo hi : Option Int) : DQA K G (L2.cutV vs lo hi) (cutD ds lo hi) := by
  unfold L2.cutV cutD
  rw [h.len]
  exact (h.drop _).take _
theorem DE.sl {a : Expr} {lo hi : Option Expr} {m : EM} {ol oh : OM} {p2 pos : Pos} (ha : DE F W X a m) (hl : DO F W X lo ol) (hh : DO F W X hi oh) : DE F W X (.Subscript a (.Slice lo hi Option.none p2) pos) (slM m ol oh) := by
  refine ⟨PE.cons (pe_slice (sl_list.or (sl_tupA.or sl_str)) ha.pe hl.po hh.po) ?_⟩
  rintro σ H Q ⟨G, δ, e, h⟩
  have h' : Post F X.K X.mg W G H σ δ Q ((m δ).bind fun r δ1 => partM ol δ1 fun l δ2 => partM oh δ2 fun u δ3 => match r.get δ3 with | Option.some d => (slD d l u).res δ3 | Option.none => .bad) := h
  refine ⟨G, δ, e, Post.mono (h'.bind (Step.refl e)) fun x H1 ⟨G1, δ1, v1, s1, rv1, nw1, h1⟩ => ?_⟩
  refine ⟨G, δ, G1, H, δ1, _, Q, s1, h1, fun l H2 G2 δ2 t2 u2 h2 => ?_⟩
  refine ⟨G, δ, G2, H, δ2, _, Q, t2, h2, fun u H3 G3 δ3 t3 u3 h3 => ?_⟩
  have rv3 := (rv1.step u2 (u2.len s1.e)).step u3 (u3.len t2.e)
  split at h3
  · rename_i d g
    have c := rv3.get t3.e g
    have p := OPost.of t3 h3
    cases d <;> first | exact p.elim | skip
    · rename_i z
      have p' : OPost X.K G3 H3 Q (if z.length ≤ line then .v (.str (L2.cutS z l u)) else .bad) := p
      split at p'
      · rename_i hz
        exact .inr (.inr ⟨z, c.of_str, by rw [← line_eq]; exact hz, p'.v_now t3.e.st.sub (.str _)⟩)
      · exact p'.elim
    · rename_i ds
      obtain ⟨a', vs, rfl, h4, h5⟩ := c.of_list t3.e.st.sub
      exact .inl ⟨a', vs, rfl, h4.sql, fun p0 hp => p.nl_new t3.e.st.sub hp (MP.DQA.cut h5 l u)⟩
    · rename_i ds
      obtain ⟨a', vs, rfl, h4, g4, h5⟩ := c.of_tup t3.e.st.sub
      refine .inr (.inl ⟨a', vs, rfl, h4, fun hw => ?_, fun _ p0 hp => p.v_new t3.e.st.sub hp (MP.DQA.cut h5 l u)⟩)
      have e2 : cutD ds l u = ds := by
        unfold cutD
        rw [h5.len] at hw
        rw [hw.1, hw.2]
        simp
      have p' : OPost X.K G3 H3 Q (.v (.tuple (cutD ds l u))) := p
      rw [e2] at p'
      exact p'.v_now t3.e.st.sub (.tup g4 h5)
  · exact h3.elim
end
end MP

set_option Elab.async false
set_option linter.all false
set_option maxRecDepth 100000
set_option maxHeartbeats 2000000
namespace MP
open PySem PySem.Spec PyProof.Rows L2 LamX NdefX
section
variable {F : Fr} {W : WX} {X : Cx} {a b c : Expr} {ma mb mc : EM} {f g : D → D → ORes} {pos : Pos} {op op' : CmpOp}
theorem ORes.v_bl {o : ORes} {k : Bool} (h : o = .v (.bool k)) {K : PySem.W.Frag} {G H : Hp} {Q : VK} (q : ∀ x H' G', Grow G H G' H' → DQ K G' x (.bool k) → Q x H') : OPost K G H Q o := by
  subst h; exact q
theorem TI.chain {r r' : R2} (hr : ∀ (G H : Hp) (x y : V) (d e : D) (Q : VK), Same G H → Cur X.K G H x d → Cur X.K G H y e → OPost X.K G H Q (f d e) → r x y H Q) (hr' : ∀ (G H : Hp) (x y : V) (d e : D) (Q : VK), Same G H → Cur X.K G H x d → Cur X.K G H y e → OPost X.K G H Q (g d e) → r' x y H Q)
    (σ : L2.St) (H : Hp) (Q : VK) (h : TI F X.K X.mg W (chainM f g ma mb mc) σ H Q) : tChain r r' (TI F X.K X.mg W ma) (TI F X.K X.mg W mb) (TI F X.K X.mg W mc) σ H Q := by
  obtain ⟨G, δ, e, h⟩ := h
  refine ⟨G, δ, e, Post.mono (h.bind (Step.refl e)) fun x H1 ⟨G1, δ1, v1, s1, rv1, nw1, h1⟩ => ⟨G1, δ1, s1.e, Post.mono (h1.bind s1) fun y H2 ⟨G2, δ2, v2, s2, rv2, nw2, h2⟩ => ?_⟩⟩
  have rv1' := rv1.step s2 (s2.len s1.e)
  have s12 := s1.trans s2
  split at h2
  · rename_i d1 d2 g1 g2
    refine hr G2 H2 x y d1 d2 _ s2.e.st.sub (rv1'.get s2.e g1) (rv2.get s2.e g2) ?_
    split at h2
    · rename_i hf
      refine ORes.v_bl hf fun z H3 G3 w hz => ?_
      have ez : z = .bl true := by cases hz; rfl
      refine ⟨true, ez, ?_⟩
      rw [if_pos rfl]
      have s3 := Step.grow w s2.e
      refine ⟨G3, δ2, s3.e, Post.mono (h2.bind (s12.trans s3)) fun w' H4 ⟨G4, δ4, v4, s4, rv4, nw4, h4⟩ => ?_⟩
      split at h4
      · rename_i d2' d3 g2' g3
        exact hr' G4 H4 y w' d2' d3 _ s4.e.st.sub (((rv2.step s3 (s3.len s2.e)).step s4 (s4.len s3.e)).get s4.e g2') (rv4.get s4.e g3) (OPost.of ((s12.trans s3).trans s4) h4)
      · exact h4.elim
    · rename_i hf
      refine ORes.v_bl hf fun z H3 G3 w hz => ?_
      have ez : z = .bl false := by cases hz; rfl
      refine ⟨false, ez, ?_⟩
      rw [if_neg Bool.false_ne_true]
      exact h2 _ _ _ (s12.trans (Step.grow w s2.e)) (.bl false) trivial
    · exact h2.elim
  · exact h2.elim
theorem DE.chain (ho : OpD X (compareOp op) f) (ho' : OpD X (compareOp op') g) (ha : DE F W X a ma) (hb : DE F W X b mb) (hc : DE F W X c mc) (hm : lastMarks [op, op'] [b, c] = false := by with_unfolding_all rfl) : DE F W X (.Compare a [op, op'] [b, c] pos) (chainM f g ma mb mc) := by
  obtain ⟨r, h1, h2⟩ := ho.ex
  obtain ⟨r', h3, h4⟩ := ho'.ex
  exact ⟨PE.cons (pe_chain h1 h3 ha.pe hb.pe hc.pe hm) (TI.chain h2 h4)⟩
def chainT (f g : D → D → ORes) (ma mb mc : EM) : TM := fun δ => (chainM f g ma mb mc δ).bind fun r δ1 => match r with
  | .fz (.bool b) => .ok b δ1
  | _ => .bad
theorem DT.chain (ho : OpD X (compareOp op) f) (ho' : OpD X (compareOp op') g) (ha : DE F W X a ma) (hb : DE F W X b mb) (hc : DE F W X c mc) (hm : lastMarks [op, op'] [b, c] = false := by with_unfolding_all rfl) :
    DT F W X (.Compare a [op, op'] [b, c] pos) (chainT f g ma mb mc) := by
  obtain ⟨r, h1, h2⟩ := ho.ex
  obtain ⟨r', h3, h4⟩ := ho'.ex
  refine ⟨PT.cons (pt_chain h1 h3 ha.pe hb.pe hc.pe hm) fun σ H Q ⟨G, δ, e, hh⟩ => ?_⟩
  refine TI.chain h2 h4 σ H _ ⟨G, δ, e, ?_⟩
  refine Post.mono (hh.bindE (Step.refl e)) fun x H1 ⟨G1, δ1, v1, s1, rv1, nw1, h5⟩ => ?_
  split at h5
  · rename_i k
    have : x = .bl k := by cases (show DQ X.K G1 x (.bool k) from rv1); rfl
    exact ⟨k, this, h5 H1 G1 s1⟩
  · exact h5.elim
end
/-! ### methods that change nothing -/
structure MetD (X : Cx) (T id : String) (f : D → List D → ORes) : Prop where
  ex : ∃ r : V → List V → Hp → VK → Prop, MtR X id r ∧ ∀ (G H : Hp) (x : V) (d : D) (xs : List V) (ds : List D) (Q : VK), Same G H → Cur X.K G H x d → CurA X.K G H xs ds → OPost X.K G H Q (f d ds) → r x xs H Q
def tyOkD (T : String) (d : D) : Bool := match d with
  | .str _ => T == "str"
  | .list _ => T == "list"
  | _ => false
def metM (T : String) (f : D → List D → ORes) (mo : EM) (m : AM) : EM := fun δ => (mo δ).bind fun r δ1 => match r.get δ1 with
  | some d0 => if tyOkD T d0 = true then (m δ1).bind fun rs δ2 => match r.get δ2, getL δ2 rs with
      | some d, some ds => (f d ds).res δ2
      | _, _ => .bad
    else .bad
  | none => .bad
section
variable {F : Fr} {W : WX} {X : Cx} {o e : Expr} {es : List Expr} {mo : EM} {m : AM} {T id : String} {name : Str} {apos cpos : Pos} {f : D → List D → ORes}
theorem DE.met (pa : PlainAttrs T) (slot : Slot T name id) (hty : typeOf (.builtin id) = pure (.type "method_descriptor")) (hm : MetD X T id f) (ho : DE F W X o mo) (ha : DA F W X (e :: es) m)
    (hbase : attributeBase o name X.env (eval o X.env) = eval o X.env := by rfl)
    (hfew : ((backTo cpos (starEach (e :: es) X.env)).all (fun x => !x.1) && (backToKw cpos (keywordEach [] X.env)).all (fun x => x.1.isSome)
      && decide ((e :: es).length + ([] : List Keyword).length + (if ([] : List Keyword).isEmpty then 0 else 1) < 30)) = true := by rfl)
    (hline : (apos.endLine == cpos.line) = true := by rfl) (hs : starEach (e :: es) X.env = (false, eval e X.env) :: starEach es X.env := by rfl) (hplain : (backTo cpos (starEach es X.env)).any (·.1) = false := by rfl) :
    DE F W X (.Call (.Attribute o name apos) (e :: es) [] cpos) (metM T f mo m) := by
  obtain ⟨r, h1, h2⟩ := hm.ex
  refine ⟨PE.cons (pe_bm pa slot hty h1 ho.pe ha.pa hbase hfew hline hs hplain) ?_⟩
  rintro σ H Q ⟨G, δ, e0, h⟩
  refine ⟨G, δ, e0, Post.mono (h.bind (Step.refl e0)) fun x H1 ⟨G1, δ1, v1, s1, rv1, nw1, h3⟩ => ?_⟩
  split at h3
  · rename_i d0 g0
    split at h3
    · rename_i ht
      have c0 := rv1.get s1.e g0
      refine ⟨?_, G1, δ1, s1.e, PostA.mono (h3.bindA s1) fun xs H2 ⟨G2, δ2, vs, s2, rv2, nw2, h4⟩ => ?_⟩
      · cases d0 <;> first | cases ht | skip
        · have hT : T = "str" := by simpa [tyOkD] using ht
          rw [c0.of_str]; exact hT
        · have hT : T = "list" := by simpa [tyOkD] using ht
          obtain ⟨a, vs, rfl, z1, z2⟩ := c0.of_list s1.e.st.sub
          exact .inl ⟨hT, vs, z1.sql⟩
      · split at h4
        · rename_i d ds g1 g2
          exact h2 G2 H2 x d xs ds Q s2.e.st.sub ((rv1.step s2 (s2.len s1.e)).get s2.e g1) (rv2.get s2.e g2) (OPost.of (s1.trans s2) h4)
        · exact h4.elim
    · exact h3.elim
  · exact h3.elim
def joinD (d : D) (ds : List D) : ORes := match d, ds with
  | .str z, [.list l] => match strsOf l with
    | some xs => if (xs.map (·.length)).sum + xs.length * z.length ≤ 16777216 then .v (.str (Txt.join z xs)) else .bad
    | none => .bad
  | _, _ => .bad
theorem me_join : MetD X "str" "str.join" joinD := ⟨_, mt_join, fun G H x d xs ds Q s c cs p => by
  unfold joinD at p
  split at p
  · rename_i z l
    cases cs with
    | cons c1 c2 =>
      cases c2
      split at p
      · rename_i ys hy
        split at p
        · rename_i hz
          obtain ⟨a, vs, rfl, h1, h2⟩ := c1.of_list s
          exact ⟨z, a, ys, c.of_str, rfl, .inl (by rw [← strsOf_rep h2 hy]; exact h1.sql), hz, p.v_now s (.str _)⟩
        · exact p.elim
      · exact p.elim
  · exact p.elim⟩
end
end MP

set_option Elab.async false
set_option linter.all false
set_option maxRecDepth 100000
set_option maxHeartbeats 2000000
namespace MP
open PySem PySem.Spec PyProof.Rows L2 LamX NdefX
theorem room_ix {k : Nat} {A : Around} (hr : Room k A) : A.units + 1 < cLine := by have := hr.un; omega
/-! ### list(range(n)) -/
def listRgM (m : EM) : EM := fun δ => (m δ).bind fun r δ1 => match r.get δ1 with
  | some (.int n) => if 0 ≤ n ∧ n ≤ 16777216 then .ok (.ow (rangeL 0 n.toNat)) δ1 else .bad
  | _ => .bad
theorem rangeL_rg {K : PySem.W.Frag} {G : Hp} : ∀ (n : Nat) (lo : Int), DQA K G ((List.range n).map fun (i : Nat) => V.int (lo + i)) (rangeL lo n)
  | 0, lo => .nil
  | n + 1, lo => by
    rw [List.range_succ_eq_map, List.map_cons, List.map_map]
    refine .cons (by rw [show lo + ((0 : Nat) : Int) = lo by simp]; exact .int lo) ?_
    have := rangeL_rg (K := K) (G := G) n (lo + 1)
    have e : ((fun (i : Nat) => V.int (lo + i)) ∘ Nat.succ) = fun (i : Nat) => V.int (lo + 1 + i) := by
      funext i
      show V.int (lo + ((i + 1 : Nat) : Int)) = _
      congr 1; omega
    rw [e]; exact this
section
variable {F : Fr} {W : WX} {X : Cx} {a : Expr} {m : EM} {p p2 pos pos2 : Pos}
theorem DE.listRg (ha : DE F W X a m) (hm : X.mg "list" = Option.none) (hm2 : X.mg "range" = Option.none) (hc : X.calm = true := by rfl) (hg : Gl X "list" := by rfl) (hg2 : Gl X "range" := by rfl)
    (na : starEach [.Call (.Name "range" p2) [a] [] pos2] X.env = (false, eval (.Call (.Name "range" p2) [a] [] pos2) X.env) :: starEach [] X.env := by rfl) (nb : starEach [a] X.env = (false, eval a X.env) :: starEach [] X.env := by rfl) :
    DE F W X (.Call (.Name "list" p) [.Call (.Name "range" p2) [a] [] pos2] [] pos) (listRgM m) := by
  refine ⟨PE.cons (pe_listRg hc hg hm (prg_1 hg2 hm2 ha.pe nb) na) ?_⟩
  rintro σ H Q ⟨G, δ, e, h⟩
  refine ⟨G, δ, e, Post.mono (h.bind (Step.refl e)) fun x H1 ⟨G1, δ1, v1, s1, rv1, nw1, h1⟩ => ?_⟩
  split at h1
  · rename_i n g
    split at h1
    · rename_i hb
      refine ⟨n, (rv1.get s1.e g).of_int, RgOk.of_le (Int.le_refl _) hb.2 (by omega) hb.1, fun q hq => ?_⟩
      refine h1 _ _ _ (s1.trans (Step.grow (Grow.own s1.e.st.sub hq) s1.e)) ⟨q, _, rfl, upd_same, s1.e.st.sub.free hq, ?_, own_none s1.e hq, fun z => s1.e.pot q z hq⟩ fun p' z => by cases z; exact .inl (s1.eff.dom _ hq)
      unfold rgV
      rw [Int.sub_zero]
      exact rangeL_rg n.toNat 0
    · exact h1.elim
  · exact h1.elim
end
/-- all arguments given, though there are defaults -/
theorem FunX.bf {K : PySem.W.Frag} {x : Str} {st : Stmt} {cd : Value} {f : Addr} {fd : FuncData} {ps : List Str} {Td : Addr} {o : Obj} {its : List Value} {m : Nat} (F0 : FunX K x st (.ref Td) f fd cd) (lT : K.lookup Td = some o) (oT : o.data = .seq its.toArray m)
    (h : ∀ (kV doc pm : Value) (an : Option Addr) (ct : Value) (us : List Value), us.length = ps.length → ∃ k, bindArgs (PySem.W.fnOf x x (defArgs st) (defBody st) (defScope st) (.ref Td) kV doc pm an cd ct) ⟨us, []⟩ = seqItems? (.ref Td) >>= k ∧ k (some its.toArray) = pure (ps.zip us)) :
    ∀ (s : Shared) (us : List Value), K.In s.heap → (us ++ []).length = ps.length → BindsTo s fd ⟨us, []⟩ (ps.zip (us ++ [])) := by
  obtain ⟨oc, od, kV, doc, pm, an, ct, osl, rfl, lk, hc⟩ := F0.ex
  intro s us X hl
  rw [List.append_nil] at hl ⊢
  obtain ⟨k, e1, e2⟩ := h kV doc pm an ct us hl
  refine L2.BindsTo.of_looks fun M => ?_
  rw [e1]
  exact looks_items X lT oT (.of_pure e2)
end MP

set_option Elab.async false
set_option linter.all false
set_option maxRecDepth 100000
set_option maxHeartbeats 1000000
/-! x, y = a, b where the names are captured by a comprehension: the pair is built and taken apart -/
namespace MP
open PySem PySem.Spec PyProof.Rows L2 LamX NdefX
section
variable {X : Cx} {pos : Pos}
theorem ps_parN {i j : Nat} {x y : Str} {a b : Expr} {ta : TA} {px py pt : Pos} {kt k2 pt2} (hc : X.calm = true) (hN : X.N.Nodup) (hi : X.N[i]? = some x) (hj : X.N[j]? = some y)
    (hx : Loc X.env.scope x) (hy : Loc X.env.scope y) (ha : PA X [a, b] ta)
    (hs : swapsWithSole [.Tuple [.Name x px, .Name y py] kt pt] (.Tuple [a, b] k2 pt2) pos.line X.env = pure false := by rfl)
    (hw : swappedStores [.Tuple [.Name x px, .Name y py] kt pt] (.Tuple [a, b] k2 pt2) X.env = pure none := by rfl)
    (h1 : (assignEach [.Tuple [.Name x px, .Name y py] kt pt] X.env).map (·.2) = [assign (.Tuple [.Name x px, .Name y py] kt pt) X.env] := by rfl)
    (hf : X.fn x = true ∨ X.env.scope.names.lookup x = some .local := by first | exact .inl rfl | exact .inr rfl | assumption)
    (hf2 : X.fn y = true ∨ X.env.scope.names.lookup y = some .local := by first | exact .inl rfl | exact .inr rfl | assumption)
    (hn : (assignEach [.Name x px, .Name y py] X.env).length = 2 := by rfl) (hst : (assignEach [.Name x px, .Name y py] X.env).findIdx? (·.1) = none := by rfl)
    (hs2 : (assignEach [.Name x px, .Name y py] X.env).map (·.2) = assign (.Name x px) X.env :: (assignEach [.Name y py] X.env).map (·.2) := by rfl)
    (hs3 : (assignEach [.Name y py] X.env).map (·.2) = assign (.Name y py) X.env :: (assignEach ([] : List Expr) X.env).map (·.2) := by rfl) :
    PS X (.Assign [.Tuple [.Name x px, .Name y py] kt pt] (.Tuple [a, b] k2 pt2) pos) (tPar i j ta) := by
  refine ⟨fun pins s σ H D I h => ?_⟩
  refine wpAny_Assign_stores (Tuple_ (thn (ha.run _ pins s σ H _ I h) fun us s1 ⟨vs, H1, I1, r1, q1⟩ => ?_)) hs hw
  obtain ⟨v, w, e1, q1⟩ := q1
  subst e1
  obtain ⟨u1, u2, rfl, rv, rw'⟩ : ∃ u1 u2, us = [u1, u2] ∧ RelV v u1 ∧ RelV w u2 := by
    cases r1 with
    | cons p q =>
      cases q with
      | cons p' q' =>
        cases q'
        exact ⟨_, _, rfl, p, p'⟩
  refine wpAny_newObj_type ?_ (by show 2 ≤ sizeLine; decide)
  have I2 : Inv X pins σ H1 { s1 with heap := s1.heap.push { cls := .type "tuple", data := .seq [u1, u2].toArray } } := I1.kept (t' := s1.toks) fun b o e => Heap.get?_push_of_some _ e
  rw [h1]
  refine assign_Tuple_tuple (items := #[u1, u2]) (I.ok.hd hc) (IsTup.new s1.heap _) (by simp [hn]) hst fun h' hx' => ?_
  have I3 := I2.kept (h' := h') (t' := s1.toks) fun b o e => hx' b o (Nat.ne_of_lt (Heap.lt_size e)) e
  have g := pgs_cons (pg_name (pos := px) hN hi hx hf) (pgs_cons (pg_name (pos := py) hN hj hy hf2) pgs_nil hs3) hs2
  exact thn (g.run pins _ σ H1 [v, w] [u1, u2] (fun σ' H' => D.nx σ' H') I3 (.cons rv (.cons rw' .nil)) ⟨v, [w], rfl, w, [], rfl, rfl, q1⟩) fun _ s3 q => q
variable {F : Fr} {W : WX} {i j : Nat} {x y : Str} {a b : Expr} {px py pt : Pos} {kt k2 pt2} {m : AM}
theorem DS.parN (hc : X.calm = true) (hN : X.N.Nodup) (hi : X.N[i]? = some x) (hj : X.N[j]? = some y) (hij : i ≠ j)
    (hx : Loc X.env.scope x) (hy : Loc X.env.scope y) (hp : F.np ≤ i) (hp2 : F.np ≤ j) (ha : DA F W X [a, b] m)
    (hs : swapsWithSole [.Tuple [.Name x px, .Name y py] kt pt] (.Tuple [a, b] k2 pt2) pos.line X.env = pure false := by rfl)
    (hw : swappedStores [.Tuple [.Name x px, .Name y py] kt pt] (.Tuple [a, b] k2 pt2) X.env = pure none := by rfl)
    (h1' : (assignEach [.Tuple [.Name x px, .Name y py] kt pt] X.env).map (·.2) = [assign (.Tuple [.Name x px, .Name y py] kt pt) X.env] := by rfl)
    (hf : X.fn x = true ∨ X.env.scope.names.lookup x = some .local := by first | exact .inl rfl | exact .inr rfl | assumption)
    (hf2 : X.fn y = true ∨ X.env.scope.names.lookup y = some .local := by first | exact .inl rfl | exact .inr rfl | assumption)
    (hn : (assignEach [.Name x px, .Name y py] X.env).length = 2 := by rfl) (hst : (assignEach [.Name x px, .Name y py] X.env).findIdx? (·.1) = none := by rfl)
    (hs2 : (assignEach [.Name x px, .Name y py] X.env).map (·.2) = assign (.Name x px) X.env :: (assignEach [.Name y py] X.env).map (·.2) := by rfl)
    (hs3 : (assignEach [.Name y py] X.env).map (·.2) = assign (.Name y py) X.env :: (assignEach ([] : List Expr) X.env).map (·.2) := by rfl) :
    DS F W X (.Assign [.Tuple [.Name x px, .Name y py] kt pt] (.Tuple [a, b] k2 pt2) pos) (parM i j m) := by
  refine ⟨PS.cons (ps_parN hc hN hi hj hx hy ha.pa hs hw h1' hf hf2 hn hst hs2 hs3) ?_⟩
  rintro D σ H ⟨G, δ, e, h⟩
  refine ⟨G, δ, e, PostA.mono (h.bindA (Step.refl e)) fun vs H1 ⟨G1, δ1, rs, s1, rv1, nw1, h1⟩ => ?_⟩
  split at h1
  · rename_i r1 r2
    obtain ⟨v, v2, rfl, a1, a2, c1, n1, n2⟩ := rv1.two nw1
    refine ⟨v, v2, rfl, ?_⟩
    cases q : fzR r1 δ1 with
    | none => simp only [q] at h1; exact h1.elim
    | some w =>
      obtain ⟨r1', δ2⟩ := w
      simp only [q] at h1
      obtain ⟨G2, s2, rv2, l2, g2, f2, hn2⟩ := fzR_ok (G1 := G1) s1 a1 q
      have a2' := a2.esc' g2 l2 f2
      cases q3 : fzR r2 δ2 with
      | none => simp only [q3] at h1; exact h1.elim
      | some w =>
        obtain ⟨r2', δ3⟩ := w
        simp only [q3] at h1
        obtain ⟨G3, s3, rv3, l3, g3, f3, hn3⟩ := fzR_ok (G1 := G1) s2 a2' q3
        have rv2' := rv2.esc' g3 l3 f3
        cases q4 : stS r1' with
        | none => simp only [q4] at h1; exact h1.elim
        | some t1 =>
          cases q5 : stS r2' with
          | none => simp only [q4, q5] at h1; exact h1.elim
          | some t2 =>
            simp only [q4, q5] at h1
            have nw1' : RvNew σ δ H v r1' := by
              cases r1' with
              | ow l => have := hn2 l rfl; subst this; exact n1
              | _ => trivial
            have nw2' : RvNew σ δ H v2 r2' := by
              cases r2' with
              | ow l => have := hn3 l rfl; subst this; exact n2
              | _ => trivial
            have s4 := s3.store rv2' nw1' hp q4
            have rv4 : RvOk F X.K G3 H1 (σ.set i (some v)) (δ3.set i t1) v2 r2' := rv3.put (fzR_notsl q3) fun l l' z1 z2 => by
              subst z2
              have z3 := hn2 _ (stS_ow q4)
              have z4 := hn3 _ z1
              exact fun z5 => c1 _ _ z3 z4 z5.symm
            exact h1 _ _ _ (s4.store rv4 nw2' hp2 q5)
  · exact h1.elim
end
end MP

set_option Elab.async false
set_option linter.all false
set_option maxRecDepth 100000
set_option maxHeartbeats 1000000
/-! plain facts of the combinators: what they give at data that is known -/
namespace MP
open PySem PySem.Spec PyProof.Rows L2 LamX NdefX
@[simp] theorem kit_bi : kitB "bool" "int" = some true := by decide +kernel
@[simp] theorem kit_ii : kitB "int" "int" = some true := by decide +kernel
@[simp] theorem kit_si : kitB "str" "int" = some false := by decide +kernel
@[simp] theorem kit_ni : kitB "NoneType" "int" = some false := by decide +kernel
@[simp] theorem kit_li : kitB "list" "int" = some false := by decide +kernel
@[simp] theorem kit_ti : kitB "tuple" "int" = some false := by decide +kernel
@[simp] theorem kit_bb : kitB "bool" "bool" = some true := by decide +kernel
@[simp] theorem kit_ib : kitB "int" "bool" = some false := by decide +kernel
@[simp] theorem kit_ss : kitB "str" "str" = some true := by decide +kernel
@[simp] theorem kit_is : kitB "int" "str" = some false := by decide +kernel
@[simp] theorem kit_bs : kitB "bool" "str" = some false := by decide +kernel
@[simp] theorem kit_ns : kitB "NoneType" "str" = some false := by decide +kernel
@[simp] theorem kit_ls : kitB "list" "str" = some false := by decide +kernel
@[simp] theorem kit_ts : kitB "tuple" "str" = some false := by decide +kernel
@[simp] theorem kit_tt : kitB "tuple" "tuple" = some true := by decide +kernel
@[simp] theorem kit_it : kitB "int" "tuple" = some false := by decide +kernel
@[simp] theorem kit_bt : kitB "bool" "tuple" = some false := by decide +kernel
@[simp] theorem kit_st : kitB "str" "tuple" = some false := by decide +kernel
@[simp] theorem kit_nt : kitB "NoneType" "tuple" = some false := by decide +kernel
@[simp] theorem kit_lt : kitB "list" "tuple" = some false := by decide +kernel
@[simp] theorem truD_b (b : Bool) : truD (.bool b) = some b := rfl
@[simp] theorem truD_n : truD .none = some false := rfl
@[simp] theorem truD_i (i : Int) : truD (.int i) = some (i != 0) := rfl
@[simp] theorem truD_l (l : List D) : truD (.list l) = some !l.isEmpty := rfl
@[simp] theorem truD_t (l : List D) : truD (.tuple l) = some !l.isEmpty := rfl
@[simp] theorem cmpOk_ii (i j : Int) : cmpOk (.int i) (.int j) = true := by simp [cmpOk, PySem.W.alike, PyData.depth, dep]
@[simp] theorem ltD_ii (i j : Int) : ltD (.int i) (.int j) = .v (.bool (decide (i < j))) := by simp [ltD, PySem.W.dataLt_int]
@[simp] theorem gtD_ii (i j : Int) : gtD (.int i) (.int j) = .v (.bool (decide (j < i))) := by simp [gtD, PySem.W.dataLt_int]
@[simp] theorem leD_ii (i j : Int) : leD (.int i) (.int j) = .v (.bool (decide (i ≤ j))) := by
  simp only [leD, cmpOk_ii, if_true, PySem.W.dataLt_int]
  congr 2
  by_cases h : i ≤ j
  · simp [h]
  · simp [h]; omega
@[simp] theorem geD_ii (i j : Int) : geD (.int i) (.int j) = .v (.bool (decide (j ≤ i))) := by
  simp only [geD, cmpOk_ii, if_true, PySem.W.dataLt_int]
  congr 2
  by_cases h : j ≤ i
  · simp [h]
  · simp [h]; omega
@[simp] theorem eqD_ii (i j : Int) : eqD (.int i) (.int j) = .v (.bool (i == j)) := by simp [eqD, PyData.depth, dep, PyData.eqv]
@[simp] theorem neD_ii (i j : Int) : neD (.int i) (.int j) = .v (.bool (!(i == j))) := by simp [neD, PyData.depth, dep, PyData.eqv]
@[simp] theorem addD_ii (i j : Int) : addD (.int i) (.int j) = .v (.int (i + j)) := rfl
@[simp] theorem subD_ii (i j : Int) : subD (.int i) (.int j) = .v (.int (i - j)) := rfl
theorem mulD_ii {i j : Int} (h : (-big < i ∧ i < big) ∨ (-big < j ∧ j < big)) : mulD (.int i) (.int j) = .v (.int (i * j)) := by simp only [mulD, if_pos h]
theorem modD_ii {i j : Int} (h : 0 < j) : modD (.int i) (.int j) = .v (.int (i % j)) := by simp only [modD, if_pos h]
theorem fdivD_ii {i j : Int} (h : 0 < j ∧ j < 1073741824) : fdivD (.int i) (.int j) = .v (.int (i / j)) := by simp only [fdivD, if_pos h]
theorem dmD_ii {i j : Int} (h : 0 < j ∧ j < 1073741824) : dmD (.int i) (.int j) = .v (.tuple [.int (i / j), .int (i % j)]) := by simp only [dmD, if_pos h]
/-- a loop that keeps a word -/
theorem loopM_keep {g : GM} {b : SM} {Iv : Dl → Prop} : ∀ (ds : List D), (∀ d ∈ ds, ∀ δ, Iv δ → ∃ δ1 δ2, g d δ = some δ1 ∧ b δ1 = .ok .nx δ2 ∧ Iv δ2) → ∀ δ, Iv δ → ∃ δ', loopM g b ds δ = .ok .nx δ' ∧ Iv δ'
  | [], _, δ, h => ⟨δ, rfl, h⟩
  | d :: ds, hs, δ, h => by
    obtain ⟨δ1, δ2, e1, e2, h2⟩ := hs d List.mem_cons_self δ h
    obtain ⟨δ', e3, h3⟩ := loopM_keep ds (fun d hd => hs d (List.mem_cons_of_mem _ hd)) δ2 h2
    exact ⟨δ', by simp only [loopM, e1, e2]; exact e3, h3⟩
/-- a comprehension whose turns leave the slots as they were -/
theorem lcLoop_pure {g : GM} {tt : TM} {te : EM} {vs : List Nat} {δ : Dl} {f : D → Option D} : ∀ (ds acc : List D),
    (∀ d ∈ ds, ∃ δ1, g d δ = some δ1 ∧ ((f d = none ∧ ∃ δ2, tt δ1 = .ok false δ2 ∧ hide vs δ2 = δ) ∨ ∃ y δ2 r δ3 δ4, f d = some y ∧ tt δ1 = .ok true δ2 ∧ te δ2 = .ok r δ3 ∧ esc1 r δ3 = some (y, δ4) ∧ hide vs δ4 = δ)) →
    acc.length + ds.length ≤ line → lcLoop g tt te vs ds acc δ = .ok (acc ++ ds.filterMap f) δ
  | [], acc, _, _ => by simp [lcLoop]
  | d :: ds, acc, hs, hl => by
    obtain ⟨δ1, e1, h⟩ := hs d List.mem_cons_self
    have ih := fun acc => lcLoop_pure ds acc (fun d hd => hs d (List.mem_cons_of_mem _ hd))
    simp only [List.length_cons] at hl
    rcases h with ⟨ef, δ2, e2, e3⟩ | ⟨y, δ2, r, δ3, δ4, ef, e2, e3, e4, e5⟩
    · simp only [lcLoop, e1, e2, e3]
      rw [ih acc (by omega), List.filterMap_cons, ef]
    · have hz : acc.length < line := by omega
      simp only [lcLoop, e1, e2, e3, e4, e5, if_pos hz]
      rw [ih (acc ++ [y]) (by simp; omega), List.filterMap_cons, ef]
      simp
inductive All2 (P : D → D → Prop) : List D → List D → Prop
  | nil : All2 P [] []
  | cons {a b : D} {as bs : List D} : P a b → All2 P as bs → All2 P (a :: as) (b :: bs)
theorem All2.len {P : D → D → Prop} {as bs : List D} (h : All2 P as bs) : as.length = bs.length := by
  induction h with
  | nil => rfl
  | cons _ _ ih => simp [ih]
/-- a comprehension whose turns keep a word -/
theorem lcLoop_keep {g : GM} {tt : TM} {te : EM} {vs : List Nat} {Iv : Dl → Prop} {P : D → D → Prop} : ∀ (ds acc : List D),
    (∀ d ∈ ds, ∀ δ, Iv δ → ∃ δ1 δ2 r δ3 y δ4, g d δ = some δ1 ∧ tt δ1 = .ok true δ2 ∧ te δ2 = .ok r δ3 ∧ esc1 r δ3 = some (y, δ4) ∧ P d y ∧ Iv (hide vs δ4)) →
    acc.length + ds.length ≤ line → ∀ δ, Iv δ → ∃ ys δ', lcLoop g tt te vs ds acc δ = .ok (acc ++ ys) δ' ∧ All2 P ds ys ∧ Iv δ'
  | [], acc, _, _, δ, h => ⟨[], δ, by simp [lcLoop], .nil, h⟩
  | d :: ds, acc, hs, hl, δ, h => by
    obtain ⟨δ1, δ2, r, δ3, y, δ4, e1, e2, e3, e4, hp, hi⟩ := hs d List.mem_cons_self δ h
    simp only [List.length_cons] at hl
    have hz : acc.length < line := by omega
    obtain ⟨ys, δ', e5, h5, h6⟩ := lcLoop_keep ds (acc ++ [y]) (fun d hd => hs d (List.mem_cons_of_mem _ hd)) (by simp; omega) _ hi
    refine ⟨y :: ys, δ', ?_, .cons hp h5, h6⟩
    simp only [lcLoop, e1, e2, e3, e4, if_pos hz]
    rw [e5]; simp
end MP

set_option Elab.async false
set_option linter.all false
set_option maxRecDepth 100000
set_option maxHeartbeats 1000000
namespace MP
open PySem PySem.Spec PyProof.Rows L2 LamX NdefX
/-- one turn of a comprehension -/
def turnC (g : GM) (tt : TM) (te : EM) (vs : List Nat) (d : D) (δ : Dl) : Option (Option D × Dl) := match g d δ with
  | none => none
  | some δ1 => match tt δ1 with
    | .ok true δ2 => match te δ2 with
      | .ok r δ3 => match esc1 r δ3 with
        | some (y, δ4) => some (some y, hide vs δ4)
        | none => none
      | _ => none
    | .ok false δ2 => some (none, hide vs δ2)
    | _ => none
theorem lcLoop_step {g : GM} {tt : TM} {te : EM} {vs : List Nat} {d : D} {ds acc : List D} {δ δ' : Dl} {y : Option D}
    (h : turnC g tt te vs d δ = some (y, δ')) (hl : acc.length < line) : lcLoop g tt te vs (d :: ds) acc δ = lcLoop g tt te vs ds (acc ++ y.toList) δ' := by
  unfold turnC at h
  split at h
  · cases h
  · rename_i δ1 e1
    split at h
    · rename_i δ2 e2
      split at h
      · rename_i r δ3 e3
        split at h
        · rename_i y' δ4 e4
          simp only [Option.some.injEq, Prod.mk.injEq] at h
          obtain ⟨rfl, rfl⟩ := h
          simp only [lcLoop, e1, e2, e3, e4, if_pos hl, Option.toList]
        · cases h
      · cases h
    · rename_i δ2 e2
      simp only [Option.some.injEq, Prod.mk.injEq] at h
      obtain ⟨rfl, rfl⟩ := h
      simp only [lcLoop, e1, e2, Option.toList, List.append_nil]
    · cases h
theorem lcLoop_fm {α : Type} {g : GM} {tt : TM} {te : EM} {vs : List Nat} {δ : Dl} {e : α → D} {f : α → Option D} : ∀ (as : List α) (acc : List D),
    (∀ a ∈ as, turnC g tt te vs (e a) δ = some (f a, δ)) → acc.length + as.length ≤ line → lcLoop g tt te vs (as.map e) acc δ = .ok (acc ++ as.filterMap f) δ
  | [], acc, _, _ => by simp [lcLoop]
  | a :: as, acc, hs, hl => by
    simp only [List.length_cons] at hl
    have ho : (f a).toList.length ≤ 1 := by cases f a <;> simp
    rw [List.map_cons, lcLoop_step (hs a List.mem_cons_self) (by omega), lcLoop_fm as _ (fun a ha => hs a (List.mem_cons_of_mem _ ha)) (by simp only [List.length_append]; omega)]
    cases h : f a <;> simp [h]
theorem lcLoop_m {α : Type} {g : GM} {tt : TM} {te : EM} {vs : List Nat} {δ : Dl} {e : α → D} {f : α → D} (as : List α)
    (hs : ∀ a ∈ as, turnC g tt te vs (e a) δ = some (some (f a), δ)) (hl : as.length ≤ line) : lcLoop g tt te vs (as.map e) [] δ = .ok (as.map f) δ := by
  rw [lcLoop_fm (f := fun a => some (f a)) as [] hs (by simpa using hl)]
  simp
theorem fm_filter {α β : Type} {p : α → Bool} {f : α → β} : ∀ l : List α, l.filterMap (fun a => if p a then some (f a) else none) = (l.filter p).map f
  | [] => rfl
  | a :: l => by cases h : p a <;> simp [fm_filter l, h]
theorem lcLoop_if {α : Type} {g : GM} {tt : TM} {te : EM} {vs : List Nat} {δ : Dl} {e : α → D} {p : α → Bool} {f : α → D} (as : List α)
    (hs : ∀ a ∈ as, turnC g tt te vs (e a) δ = some (if p a then some (f a) else none, δ)) (hl : as.length ≤ line) : lcLoop g tt te vs (as.map e) [] δ = .ok ((as.filter p).map f) δ := by
  rw [lcLoop_fm (f := fun a => if p a then some (f a) else none) as [] hs (by simpa using hl), fm_filter]
  simp
theorem rangeL_eq : ∀ (n : Nat) (lo : Int), rangeL lo n = (List.range n).map fun i => PyData.int (lo + (i : Nat))
  | 0, lo => rfl
  | n + 1, lo => by
    rw [rangeL, rangeL_eq n, List.range_succ_eq_map, List.map_cons, List.map_map]
    congr 1
    · simp
    · apply List.map_congr_left
      intro a _
      simp only [Function.comp_apply, PyData.int.injEq]
      omega
@[simp] theorem line1 : 1 ≤ line := by decide
@[simp] theorem line2 : 2 ≤ line := by decide
@[simp] theorem line3 : 3 ≤ line := by decide
@[simp] theorem line4 : 4 ≤ line := by decide
@[simp] theorem line5 : 5 ≤ line := by decide
@[simp] theorem line6 : 6 ≤ line := by decide
@[simp] theorem line7 : 7 ≤ line := by decide
@[simp] theorem line8 : 8 ≤ line := by decide
@[simp] theorem line9 : 9 ≤ line := by decide
@[simp] theorem line10 : 10 ≤ line := by decide
@[simp] theorem line11 : 11 ≤ line := by decide
@[simp] theorem line12 : 12 ≤ line := by decide
@[simp] theorem line13 : 13 ≤ line := by decide
@[simp] theorem line14 : 14 ≤ line := by decide
@[simp] theorem line15 : 15 ≤ line := by decide
@[simp] theorem line16 : 16 ≤ line := by decide
@[simp] theorem line17 : 17 ≤ line := by decide
@[simp] theorem line18 : 18 ≤ line := by decide
@[simp] theorem line19 : 19 ≤ line := by decide
@[simp] theorem line20 : 20 ≤ line := by decide
@[simp] theorem line21 : 21 ≤ line := by decide
@[simp] theorem line22 : 22 ≤ line := by decide
@[simp] theorem line23 : 23 ≤ line := by decide
@[simp] theorem line24 : 24 ≤ line := by decide
@[simp] theorem line25 : 25 ≤ line := by decide
@[simp] theorem line26 : 26 ≤ line := by decide
@[simp] theorem line27 : 27 ≤ line := by decide
@[simp] theorem line28 : 28 ≤ line := by decide
@[simp] theorem line29 : 29 ≤ line := by decide
@[simp] theorem line30 : 30 ≤ line := by decide
@[simp] theorem line31 : 31 ≤ line := by decide
@[simp] theorem line32 : 32 ≤ line := by decide
theorem boolsOf_map {α : Type} {f : α → Bool} : ∀ l : List α, boolsOf (l.map fun a => PyData.bool (f a)) = some (l.map f)
  | [] => rfl
  | _ :: l => by simp [boolsOf, boolsOf_map l]
theorem intsOf_map {α : Type} {f : α → Int} : ∀ l : List α, intsOf (l.map fun a => PyData.int (f a)) = some (l.map f)
  | [] => rfl
  | _ :: l => by simp [intsOf, intsOf_map l]
theorem intsOf_fm {α : Type} {p : α → Bool} {f : α → Int} : ∀ l : List α, intsOf (l.filterMap fun a => if p a then some (PyData.int (f a)) else none) = some ((l.filter p).map f)
  | [] => rfl
  | a :: l => by cases h : p a <;> simp [intsOf, intsOf_fm l, h]
theorem strsOf_map {α : Type} {f : α → Str} : ∀ l : List α, strsOf (l.map fun a => PyData.str (f a)) = some (l.map f)
  | [] => rfl
  | _ :: l => by simp [strsOf, strsOf_map l]
/-- a comprehension whose turns keep a word -/
theorem lcLoop_iv {α : Type} {g : GM} {tt : TM} {te : EM} {vs : List Nat} {Iv : Dl → Prop} {e : α → D} {P : α → D → Prop} : ∀ (as : List α) (acc : List D),
    (∀ a ∈ as, ∀ δ, Iv δ → ∃ y δ', turnC g tt te vs (e a) δ = some (some y, δ') ∧ P a y ∧ Iv δ') →
    acc.length + as.length ≤ line → ∀ δ, Iv δ → ∃ ys δ', lcLoop g tt te vs (as.map e) acc δ = .ok (acc ++ ys) δ' ∧ ys.length = as.length ∧ (∀ i (h : i < ys.length) (h2 : i < as.length), P as[i] ys[i]) ∧ Iv δ'
  | [], acc, _, _, δ, h => ⟨[], δ, by simp [lcLoop], rfl, fun i h => absurd h (by simp), h⟩
  | a :: as, acc, hs, hl, δ, h => by
    obtain ⟨y, δ1, e1, hp, hi⟩ := hs a List.mem_cons_self δ h
    simp only [List.length_cons] at hl
    obtain ⟨ys, δ', e5, h5, h6, h7⟩ := lcLoop_iv as (acc ++ [y]) (fun a ha => hs a (List.mem_cons_of_mem _ ha)) (by simp; omega) _ hi
    refine ⟨y :: ys, δ', ?_, by simp [h5], ?_, h7⟩
    · rw [List.map_cons, lcLoop_step e1 (by omega)]
      simpa using e5
    · intro i h1 h2
      cases i with
      | zero => exact hp
      | succ i => exact h6 i (by simpa using h1) (by simpa using h2)
end MP

set_option Elab.async false
set_option linter.all false
set_option maxRecDepth 100000
set_option maxHeartbeats 4000000
namespace LW
open PySem PySem.Spec PyProof.Rows L2 LamX NdefX MP
def top (i : Nat) : Stmt := PySem.Challenge.pw_bearstacks_k31_whole_crates_that_stand_i.main.body.getD i (.Pass ⟨0, 0, 0, 0⟩)
def C_MOST_BEARS : D := .int 999
def C_MOST_CRATES : D := .int 7
def C_MOST_IN_NAME : D := .int 8
def C_MOST_WEIGHT : D := .int 999
def C_SMALL_LETTERS : D := .str "abcdefghijklmnopqrstuvwxyz"
def C_WORDS : D := .tuple (((["above", "all", "any", "bears", "below", "broke", "by", "can", "crate", "day", "days", "goes", "guest", "held", "holds", "in"] : List Str) ++ (["leaves", "lifts", "loads", "most", "no", "none", "of", "on", "out", "pull", "put", "room", "rule", "shelf", "slip", "snow"] : List Str) ++ (["spare", "stack", "take", "tidy", "to", "top", "weighs", "with", "yard"] : List Str)).map .str)
/-! ### is_whole -/
abbrev s_is_whole : Stmt := top 8
def N_is_whole : List Str := ["value"]
theorem sc_is_whole : FnScope N_is_whole ["value"] (defScope s_is_whole) := ⟨rfl, rfl, rfl, by decide +kernel, rfl, by decide +kernel, by decide +kernel⟩
def M_is_whole : SM := (retM (andE (unM (isiD "int") (varM 0)) (notE (unM (isiD "bool") (varM 0)))))
def R_is_whole : List Sl → RF := runF false 1 M_is_whole
/-! ### is_number -/
abbrev s_is_number : Stmt := top 9
def N_is_number : List Str := ["value", "low", "high"]
theorem sc_is_number : FnScope N_is_number ["value", "low", "high"] (defScope s_is_number) := ⟨rfl, rfl, rfl, by decide +kernel, rfl, by decide +kernel, by decide +kernel⟩
def M_is_number : SM := (seqM (ifM (orT (notT (truM (callM false noB R_is_whole [] (consA (varM 0) nilA)))) (andT (cmpM isNotD (varM 1) (conM .none)) (cmpM ltD (varM 0) (varM 1)))) (retM (conM (.bool false))) nxM) (retM (orE (binM isD (varM 2) (conM .none)) (binM leD (varM 0) (varM 2)))))
def R_is_number : List Sl → RF := runF false 3 M_is_number
/-! ### is_tuple_of -/
abbrev s_is_tuple_of : Stmt := top 10
def N_is_tuple_of : List Str := ["value", "many"]
theorem sc_is_tuple_of : FnScope N_is_tuple_of ["value", "many"] (defScope s_is_tuple_of) := ⟨rfl, rfl, rfl, by decide +kernel, rfl, by decide +kernel, by decide +kernel⟩
def M_is_tuple_of : SM := (retM (andE (unM (isiD "tuple") (varM 0)) (binM eqD (biM (arg1 lenD) (consA (varM 0) nilA)) (varM 1))))
def R_is_tuple_of : List Sl → RF := runF false 2 M_is_tuple_of
/-! ### wrong_at -/
abbrev s_wrong_at : Stmt := top 11
def N_wrong_at : List Str := ["values", "most", "is_right", "at", "value"]
theorem sc_wrong_at : FnScope N_wrong_at ["values", "most", "is_right"] (defScope s_wrong_at) := ⟨rfl, rfl, rfl, by decide +kernel, rfl, by decide +kernel, by decide +kernel⟩
def L_wrong_at_1 : SM := (ifM (orT (cmpM eqD (varM 3) (varM 1)) (notT (truM (cloM 2 (consA (varM 4) (consA (slM (varM 0) none (some (varM 3))) nilA)))))) (retM (lstM (consA (varM 3) nilA))) nxM)
def M_wrong_at : SM := (seqM (ifM (notT (truM (unM (isiD "tuple") (varM 0)))) (retM (lstM (consA (conM .none) nilA))) nxM) (seqM (forM (enumI (varM 0)) (tupG 2 (consG (nameG 3) (consG (nameG 4) nilG))) L_wrong_at_1) (retM (lstM nilA))))
def R_wrong_at : List Sl → RF := runF false 5 M_wrong_at
/-! ### is_letters -/
abbrev s_is_letters : Stmt := top 12
def N_is_letters : List Str := ["value", "least", "most", "letter"]
theorem sc_is_letters : FnScope N_is_letters ["value", "least", "most"] (defScope s_is_letters) := ⟨rfl, rfl, rfl, by decide +kernel, rfl, by decide +kernel, by decide +kernel⟩
def E_is_letters_1 : EM := (binM inD (varM 3) (conM C_SMALL_LETTERS))
def M_is_letters : SM := (seqM (ifM (orT (notT (truM (unM (isiD "str") (varM 0)))) (notT (chainT leD leD (varM 1) (biM (arg1 lenD) (consA (varM 0) nilA)) (varM 2)))) (retM (conM (.bool false))) nxM) (retM (biM (arg1 allD) (consA (lcM [] (seqI (varM 0)) (nameG 3) yesM E_is_letters_1 [3]) nilA))))
def R_is_letters : List Sl → RF := runF false 4 M_is_letters
/-! ### is_name -/
abbrev s_is_name : Stmt := top 13
def N_is_name : List Str := ["value"]
theorem sc_is_name : FnScope N_is_name ["value"] (defScope s_is_name) := ⟨rfl, rfl, rfl, by decide +kernel, rfl, by decide +kernel, by decide +kernel⟩
def M_is_name : SM := (retM (andE (callM false noB R_is_letters [] (consA (varM 0) (consA (conM (.int 1)) (consA (conM C_MOST_IN_NAME) nilA)))) (binM notInD (varM 0) (conM C_WORDS))))
def R_is_name : List Sl → RF := runF false 1 M_is_name
/-! ### is_crate_form -/
abbrev s_is_crate_form : Stmt := top 18
def N_is_crate_form : List Str := ["value"]
theorem sc_is_crate_form : FnScope N_is_crate_form ["value"] (defScope s_is_crate_form) := ⟨rfl, rfl, rfl, by decide +kernel, rfl, by decide +kernel, by decide +kernel⟩
def M_is_crate_form : SM := (seqM (ifM (orT (notT (truM (callM false noB R_is_tuple_of [] (consA (varM 0) (consA (conM (.int 3)) nilA))))) (notT (truM (callM false noB R_is_name [] (consA (ixM (varM 0) (conM (.int 0))) nilA))))) (retM (conM (.bool false))) nxM) (retM (andE (callM false noB R_is_number [] (consA (ixM (varM 0) (conM (.int 1))) (consA (conM (.int 1)) (consA (conM C_MOST_WEIGHT) nilA)))) (callM false noB R_is_number [] (consA (ixM (varM 0) (conM (.int 2))) (consA (conM (.int 0)) (consA (conM C_MOST_BEARS) nilA)))))))
def R_is_crate_form : List Sl → RF := runF false 1 M_is_crate_form
/-! ### wrong_lot -/
abbrev s_wrong_lot : Stmt := top 19
def N_wrong_lot : List Str := ["value", "barred", "is_right"]
theorem sc_wrong_lot : FnScope N_wrong_lot ["value", "barred"] (defScope s_wrong_lot) := ⟨rfl, rfl, rfl, by decide +kernel, rfl, by decide +kernel, by decide +kernel⟩
abbrev s_is_right : Stmt := (defBody s_wrong_lot).getD 0 (.Pass ⟨0, 0, 0, 0⟩)
def N_is_right : List Str := ["each", "before", "barred"]
theorem nsc_is_right : NScope N_is_right ["each", "before"] ["barred"] (defScope s_is_right) := nscope_by (by decide +kernel)
def M_is_right : SM := (seqM (ifM (orT (notT (truM (callM false noB R_is_crate_form [] (consA (varM 0) nilA)))) (cmpM inD (ixM (varM 0) (conM (.int 0))) (varM 2))) (retM (conM (.bool false))) nxM) (retM (orE (binM eqD (varM 1) (tupM nilA)) (binM ltD (ixM (ixM (varM 1) (unM negD (conM (.int 1)))) (conM (.int 0))) (ixM (varM 0) (conM (.int 0)))))))
abbrev mk_is_right (X : Cx) (c : Addr) : NF := ⟨"is_right", X.env.qual ++ "is_right", defArgs s_is_right, defBody s_is_right, defScope s_is_right, cloFrom X.env.cells (defScope s_is_right).names [], c⟩
def nm_wrong_lot : Nat → Nat → Str := fun _ _ => "wrong_lot.<locals>.is_right"
def nb_wrong_lot : NB := nb1 [1] 3 2 M_is_right
theorem nd_wrong_lot : ndefB (defScope s_wrong_lot) (defScope s_is_right) ["barred"] = true := by decide +kernel
def M_wrong_lot : SM := (seqM (ndefM 2 0) (retM (callM false nb_wrong_lot R_wrong_at [] (consA (varM 0) (consA (conM C_MOST_CRATES) (consA (varM 2) nilA))))))
def R_wrong_lot : List Sl → RF := runF false 3 M_wrong_lot
/-! ### weight_up_to -/
abbrev s_weight_up_to : Stmt := top 20
def N_weight_up_to : List Str := ["lot", "most", "name", "weight", "bears"]
theorem sc_weight_up_to : FnScope N_weight_up_to ["lot", "most"] (defScope s_weight_up_to) := ⟨rfl, rfl, rfl, by decide +kernel, rfl, by decide +kernel, by decide +kernel⟩
def T_weight_up_to_1 : TM := (cmpM leD (binM addD (varM 3) (varM 4)) (varM 1))
def E_weight_up_to_1 : EM := (varM 3)
def M_weight_up_to : SM := (retM (biM (arg1 sumD) (consA (lcM [] (seqI (varM 0)) (tupG 3 (consG (nameG 2) (consG (nameG 3) (consG (nameG 4) nilG)))) T_weight_up_to_1 E_weight_up_to_1 [2, 3, 4]) nilA)))
def R_weight_up_to : List Sl → RF := runF false 5 M_weight_up_to
/-! ### greatest_bound -/
abbrev s_greatest_bound : Stmt := top 21
def N_greatest_bound : List Str := ["lot", "name", "weight", "bears"]
theorem sc_greatest_bound : FnScope N_greatest_bound ["lot"] (defScope s_greatest_bound) := ⟨rfl, rfl, rfl, by decide +kernel, rfl, by decide +kernel, by decide +kernel⟩
def E_greatest_bound_1 : EM := (binM addD (varM 2) (varM 3))
def M_greatest_bound : SM := (retM (biM (arg1 max1D) (consA (binM addD (lstM (consA (conM (.int 0)) nilA)) (lcM [] (seqI (varM 0)) (tupG 3 (consG (nameG 1) (consG (nameG 2) (consG (nameG 3) nilG)))) yesM E_greatest_bound_1 [1, 2, 3])) nilA)))
def R_greatest_bound : List Sl → RF := runF false 4 M_greatest_bound
/-! ### check_lot -/
abbrev s_check_lot : Stmt := top 23
def N_check_lot : List Str := ["value", "wrong"]
theorem sc_check_lot : FnScope N_check_lot ["value"] (defScope s_check_lot) := ⟨rfl, rfl, rfl, by decide +kernel, rfl, by decide +kernel, by decide +kernel⟩
def M_check_lot : SM := (seqM (asgM 1 (callM false noB R_wrong_lot [.tuple []] (consA (varM 0) nilA))) (ifM (cmpM neD (varM 1) (lstM nilA)) badS nxM))
def R_check_lot : List Sl → RF := runF false 2 M_check_lot
/-! ### check_crate -/
abbrev s_check_crate : Stmt := top 24
def N_check_crate : List Str := ["value"]
theorem sc_check_crate : FnScope N_check_crate ["value"] (defScope s_check_crate) := ⟨rfl, rfl, rfl, by decide +kernel, rfl, by decide +kernel, by decide +kernel⟩
def M_check_crate : SM := (ifM (notT (truM (callM false noB R_is_crate_form [] (consA (varM 0) nilA)))) badS nxM)
def R_check_crate : List Sl → RF := runF false 1 M_check_crate
/-! ### room_at -/
abbrev s_room_at : Stmt := top 26
def N_room_at : List Str := ["lot", "number", "ends", "name", "weight", "bears", "end"]
theorem sc_room_at : FnScope N_room_at ["lot", "number"] (defScope s_room_at) := ⟨rfl, rfl, rfl, by decide +kernel, rfl, by decide +kernel, by decide +kernel⟩
def E_room_at_1 : EM := (binM subD (varM 6) (callM false noB R_weight_up_to [] (consA (varM 0) (consA (varM 6) nilA))))
def T_room_at_1 : TM := (cmpM geD (binM addD (varM 4) (varM 5)) (varM 1))
def E_room_at_2 : EM := (binM addD (varM 4) (varM 5))
def M_room_at : SM := (seqM (asgM 2 (lcM [] (seqI (varM 0)) (tupG 3 (consG (nameG 3) (consG (nameG 4) (consG (nameG 5) nilG)))) T_room_at_1 E_room_at_2 [3, 4, 5])) (retM (biM (arg1 min1D) (consA (lcM [] (seqI (binM addD (lstM (consA (varM 1) nilA)) (varM 2))) (nameG 6) yesM E_room_at_1 [6]) nilA))))
def R_room_at : List Sl → RF := runF false 7 M_room_at
/-! ### barred_of -/
abbrev s_barred_of : Stmt := top 27
def N_barred_of : List Str := ["lot", "other", "number", "more"]
theorem sc_barred_of : FnScope N_barred_of ["lot", "other"] (defScope s_barred_of) := ⟨rfl, rfl, rfl, by decide +kernel, rfl, by decide +kernel, by decide +kernel⟩
def L_barred_of_1 : SM := (seqM (asgM 3 (callM false noB R_room_at [] (consA (varM 1) (consA (varM 2) nilA)))) (ifM (cmpM ltD (callM false noB R_room_at [] (consA (varM 0) (consA (varM 2) nilA))) (varM 3)) (retM (tupM (consA (varM 3) (consA (binM subD (varM 2) (varM 3)) nilA)))) nxM))
def M_barred_of : SM := (seqM (forM (rng1I (binM addD (biM (arg2 max2D) (consA (callM false noB R_greatest_bound [] (consA (varM 0) nilA)) (consA (callM false noB R_greatest_bound [] (consA (varM 1) nilA)) nilA))) (conM (.int 1)))) (nameG 2) L_barred_of_1) (retM (conM .none)))
def R_barred_of : List Sl → RF := runF false 4 M_barred_of
/-! ### does_for -/
abbrev s_does_for : Stmt := top 29
def N_does_for : List Str := ["crate", "other"]
theorem sc_does_for : FnScope N_does_for ["crate", "other"] (defScope s_does_for) := ⟨rfl, rfl, rfl, by decide +kernel, rfl, by decide +kernel, by decide +kernel⟩
def M_does_for : SM := (retM (andE (binM leD (ixM (varM 0) (conM (.int 1))) (ixM (varM 1) (conM (.int 1)))) (binM geD (ixM (varM 0) (conM (.int 2))) (ixM (varM 1) (conM (.int 2))))))
def R_does_for : List Sl → RF := runF false 2 M_does_for
/-! ### stands_in -/
abbrev s_stands_in : Stmt := top 30
def N_stands_in : List Str := ["crate", "crate2"]
theorem sc_stands_in : FnScope N_stands_in ["crate", "crate2"] (defScope s_stands_in) := ⟨rfl, rfl, rfl, by decide +kernel, rfl, by decide +kernel, by decide +kernel⟩
def M_stands_in : SM := (seqM (exprM (callM false noB R_check_crate [] (consA (varM 0) nilA))) (seqM (exprM (callM false noB R_check_crate [] (consA (varM 1) nilA))) (retM (callM false noB R_does_for [] (consA (varM 0) (consA (varM 1) nilA))))))
def R_stands_in : List Sl → RF := runF false 2 M_stands_in
/-! ### where_not -/
abbrev s_where_not : Stmt := top 31
def N_where_not : List Str := ["crate", "crate2"]
theorem sc_where_not : FnScope N_where_not ["crate", "crate2"] (defScope s_where_not) := ⟨rfl, rfl, rfl, by decide +kernel, rfl, by decide +kernel, by decide +kernel⟩
def M_where_not : SM := (seqM (exprM (callM false noB R_check_crate [] (consA (varM 0) nilA))) (seqM (exprM (callM false noB R_check_crate [] (consA (varM 1) nilA))) (retM (callM false noB R_barred_of [] (consA (tupM (consA (varM 0) nilA)) (consA (tupM (consA (varM 1) nilA)) nilA))))))
def R_where_not : List Sl → RF := runF false 2 M_where_not
/-! ### standing_in -/
abbrev s_standing_in : Stmt := top 32
def N_standing_in : List Str := ["lot", "crate", "each"]
theorem sc_standing_in : FnScope N_standing_in ["lot", "crate"] (defScope s_standing_in) := ⟨rfl, rfl, rfl, by decide +kernel, rfl, by decide +kernel, by decide +kernel⟩
def T_standing_in_1 : TM := (truM (callM false noB R_does_for [] (consA (varM 2) (consA (varM 1) nilA))))
def E_standing_in_1 : EM := (ixM (varM 2) (conM (.int 0)))
def M_standing_in : SM := (seqM (exprM (callM false noB R_check_lot [] (consA (varM 0) nilA))) (seqM (exprM (callM false noB R_check_crate [] (consA (varM 1) nilA))) (retM (biM (arg1 tupleD) (consA (lcM [] (seqI (varM 0)) (nameG 2) T_standing_in_1 E_standing_in_1 [2]) nilA)))))
def R_standing_in : List Sl → RF := runF false 3 M_standing_in
/-! ### _law_well -/
abbrev s__law_well : Stmt := top 34
def N__law_well : List Str := ["script", "k", "spot", "mixed", "each"]
theorem sc__law_well : FnScope N__law_well ["script", "k"] (defScope s__law_well) := ⟨rfl, rfl, rfl, by decide +kernel, rfl, by decide +kernel, by decide +kernel⟩
def L__law_well_1 : SM := (asgM 3 (binM modD (biM (arg1 intD) (consA (binM addD (binM addD (binM mulD (varM 3) (conM (.int 34019))) (binM modD (biM (arg1 intD) (consA (varM 4) nilA)) (conM (.int 2147480009)))) (conM (.int 103))) nilA)) (conM (.int 2147480009))))
def M__law_well : SM := (seqM (asgM 2 (ifE (cmpM ltD (varM 1) (biM (arg1 lenD) (consA (varM 0) nilA))) (biM (arg1 intD) (consA (ixM (varM 0) (varM 1)) nilA)) (binM addD (binM mulD (conM (.int 8887)) (varM 1)) (conM (.int 1907))))) (seqM (asgM 3 (binM addD (conM (.int 24001)) (binM mulD (conM (.int 2309)) (varM 1)))) (seqM (forM (seqI (binM addD (slM (varM 0) none (some (conM (.int 7)))) (lstM (consA (varM 2) nilA)))) (nameG 4) L__law_well_1) (retM (lstM (consA (ifE (orT (cmpM ltD (varM 2) (conM (.int 0))) (cmpM geD (varM 2) (binM powD (conM (.int 10)) (conM (.int 15))))) (biM (arg1 absD) (consA (varM 2) nilA)) (conM (.int 0))) (consA (varM 3) (consA (conM (.int 0)) nilA))))))))
def R__law_well : List Sl → RF := runF false 5 M__law_well
/-! ### _law_dip -/
abbrev s__law_dip : Stmt := top 35
def N__law_dip : List Str := ["well", "many", "digit"]
theorem sc__law_dip : FnScope N__law_dip ["well", "many"] (defScope s__law_dip) := ⟨rfl, rfl, rfl, by decide +kernel, rfl, by decide +kernel, by decide +kernel⟩
def M__law_dip : SM := (seqM (ifM (cmpM gtD (ixM (varM 0) (conM (.int 0))) (conM (.int 0))) (seqM (asgTM (tupG 2 (consG (subG 0 (conM (.int 0))) (consG (nameG 2) nilG))) (biM (arg2 dmD) (consA (ixM (varM 0) (conM (.int 0))) (consA (varM 1) nilA)))) (retM (varM 2))) nxM) (seqM (asgTM (subG 0 (conM (.int 2))) (binM addD (ixM (varM 0) (conM (.int 2))) (conM (.int 1)))) (seqM (asgTM (subG 0 (conM (.int 1))) (binM modD (biM (arg1 intD) (consA (binM addD (binM addD (binM mulD (ixM (varM 0) (conM (.int 1))) (conM (.int 48271))) (binM mulD (conM (.int 7919)) (ixM (varM 0) (conM (.int 2))))) (conM (.int 109))) nilA)) (conM (.int 2147480009)))) (retM (binM modD (biM (arg1 intD) (consA (binM fdivD (ixM (varM 0) (conM (.int 1))) (conM (.int 163))) nilA)) (varM 1))))))
def R__law_dip : List Sl → RF := runF true 3 M__law_dip
/-! ### _law_one -/
abbrev s__law_one : Stmt := top 36
def N__law_one : List Str := ["well", "some"]
theorem sc__law_one : FnScope N__law_one ["well", "some"] (defScope s__law_one) := ⟨rfl, rfl, rfl, by decide +kernel, rfl, by decide +kernel, by decide +kernel⟩
def M__law_one : SM := (retM (ixM (varM 1) (callM true noB R__law_dip [] (consA (varM 0) (consA (biM (arg1 lenD) (consA (varM 1) nilA)) nilA)))))
def R__law_one : List Sl → RF := runF true 2 M__law_one
/-! ### _law_turns -/
abbrev s__law_turns : Stmt := top 37
def N__law_turns : List Str := ["script"]
theorem sc__law_turns : FnScope N__law_turns ["script"] (defScope s__law_turns) := ⟨rfl, rfl, rfl, by decide +kernel, rfl, by decide +kernel, by decide +kernel⟩
def M__law_turns : SM := (retM (listRgM (biM (arg2 max2D) (consA (conM (.int 2)) (consA (biM (arg2 min2D) (consA (biM (arg1 lenD) (consA (varM 0) nilA)) (consA (conM (.int 3)) nilA))) nilA)))))
def R__law_turns : List Sl → RF := runF false 1 M__law_turns
/-! ### _law_is_number -/
abbrev s__law_is_number : Stmt := top 38
def N__law_is_number : List Str := ["value", "low", "high"]
theorem sc__law_is_number : FnScope N__law_is_number ["value", "low", "high"] (defScope s__law_is_number) := ⟨rfl, rfl, rfl, by decide +kernel, rfl, by decide +kernel, by decide +kernel⟩
def M__law_is_number : SM := (retM (andE (unM (isiD "int") (varM 0)) (andE (notE (unM (isiD "bool") (varM 0))) (chainM leD leD (varM 1) (varM 0) (varM 2)))))
def R__law_is_number : List Sl → RF := runF false 3 M__law_is_number
/-! ### _law_words -/
abbrev s__law_words : Stmt := top 39
def N__law_words : List Str := ["well", "many", "letters", "found", "taken", "k", "word", "turn", "some", "sign", "each"]
theorem sc__law_words : FnScope N__law_words ["well", "many"] (defScope s__law_words) := ⟨rfl, rfl, rfl, by decide +kernel, rfl, by decide +kernel, by decide +kernel⟩
def T__law_words_1 : TM := (cmpM notInD (varM 10) (binM addD (varM 3) (varM 4)))
def E__law_words_1 : EM := (varM 10)
def E__law_words_2 : EM := (binM addD (binM addD (slM (varM 6) none (some (conM (.int 6)))) (varM 9)) (conM (.str "q")))
def E__law_words_3 : EM := (binM addD (binM addD (slM (varM 6) none (some (conM (.int 6)))) (varM 9)) (conM (.str "z")))
def E__law_words_4 : EM := (callM true noB R__law_one [] (consA (varM 0) (consA (varM 2) nilA)))
def L__law_words_1 : SM := (seqM (asgM 6 (metM "str" joinD (conM (.str "")) (consA (lcM [] (rng1I (binM addD (conM (.int 1)) (callM true noB R__law_dip [] (consA (varM 0) (consA (callM true noB R__law_one [] (consA (varM 0) (consA (lstM (consA (conM (.int 2)) (consA (conM (.int 3)) (consA (conM (.int 8)) nilA)))) nilA))) nilA))))) (nameG 7) yesM E__law_words_4 [7]) nilA))) (seqM (asgM 8 (binM addD (binM addD (lstM (consA (varM 6) nilA)) (lcM [] (seqI (varM 2)) (nameG 9) yesM E__law_words_2 [9])) (lcM [] (seqI (varM 2)) (nameG 9) yesM E__law_words_3 [9]))) (exprM (mutM appendD 3 (consA (ixM (lcM [] (seqI (varM 8)) (nameG 10) T__law_words_1 E__law_words_1 [10]) (conM (.int 0))) nilA)))))
def M__law_words : SM := (seqM (parM 2 3 (consA (conM (.str "abcdefghijklmnopqrstuvwxyz")) (consA (lstM nilA) nilA))) (seqM (asgM 4 (lstM (consA (conM (.str "above")) (consA (conM (.str "all")) (consA (conM (.str "any")) (consA (conM (.str "bears")) (consA (conM (.str "below")) (consA (conM (.str "broke")) (consA (conM (.str "by")) (consA (conM (.str "can")) (consA (conM (.str "crate")) (consA (conM (.str "day")) (consA (conM (.str "days")) (consA (conM (.str "goes")) (consA (conM (.str "guest")) nilA))))))))))))))) (seqM (asgM 4 (binM addD (varM 4) (lstM (consA (conM (.str "held")) (consA (conM (.str "holds")) (consA (conM (.str "in")) (consA (conM (.str "leaves")) (consA (conM (.str "lifts")) (consA (conM (.str "loads")) (consA (conM (.str "most")) (consA (conM (.str "no")) (consA (conM (.str "none")) (consA (conM (.str "of")) (consA (conM (.str "on")) (consA (conM (.str "out")) (consA (conM (.str "pull")) nilA)))))))))))))))) (seqM (asgM 4 (binM addD (varM 4) (lstM (consA (conM (.str "put")) (consA (conM (.str "room")) (consA (conM (.str "rule")) (consA (conM (.str "shelf")) (consA (conM (.str "slip")) (consA (conM (.str "snow")) (consA (conM (.str "spare")) (consA (conM (.str "stack")) (consA (conM (.str "take")) (consA (conM (.str "tidy")) (consA (conM (.str "to")) (consA (conM (.str "top")) nilA))))))))))))))) (seqM (asgM 4 (binM addD (varM 4) (lstM (consA (conM (.str "weighs")) (consA (conM (.str "with")) (consA (conM (.str "yard")) nilA)))))) (seqM (forM (rng1I (varM 1)) (nameG 5) L__law_words_1) (retM (biM (arg1 tupleD) (consA (biM (arg1 sortD) (consA (varM 3) nilA)) nilA)))))))))
def R__law_words : List Sl → RF := runF true 11 M__law_words
/-! ### _law_lot -/
abbrev s__law_lot : Stmt := top 40
def N__law_lot : List Str := ["well", "most", "heavy", "firm", "names", "name"]
theorem sc__law_lot : FnScope N__law_lot ["well", "most"] (defScope s__law_lot) := ⟨rfl, rfl, rfl, by decide +kernel, rfl, by decide +kernel, by decide +kernel⟩
def E__law_lot_1 : EM := (tupM (consA (varM 5) (consA (binM addD (conM (.int 1)) (callM true noB R__law_dip [] (consA (varM 0) (consA (varM 2) nilA)))) (consA (callM true noB R__law_dip [] (consA (varM 0) (consA (varM 3) nilA))) nilA))))
def M__law_lot : SM := (seqM (parM 2 3 (consA (callM true noB R__law_one [] (consA (varM 0) (consA (lstM (consA (conM (.int 3)) (consA (conM (.int 9)) (consA (conM (.int 9)) (consA (conM (.int 30)) nilA))))) nilA))) (consA (callM true noB R__law_one [] (consA (varM 0) (consA (lstM (consA (conM (.int 4)) (consA (conM (.int 12)) (consA (conM (.int 20)) (consA (conM (.int 60)) nilA))))) nilA))) nilA))) (seqM (asgM 4 (callM true noB R__law_words [] (consA (varM 0) (consA (callM true noB R__law_dip [] (consA (varM 0) (consA (binM addD (varM 1) (conM (.int 1))) nilA))) nilA)))) (retM (biM (arg1 tupleD) (consA (lcM [] (seqI (varM 4)) (nameG 5) yesM E__law_lot_1 [5]) nilA)))))
def R__law_lot : List Sl → RF := runF true 6 M__law_lot
/-! ### _law_to -/
abbrev s__law_to : Stmt := top 41
def N__law_to : List Str := ["lot", "number", "name", "heavy", "firm"]
theorem sc__law_to : FnScope N__law_to ["lot", "number"] (defScope s__law_to) := ⟨rfl, rfl, rfl, by decide +kernel, rfl, by decide +kernel, by decide +kernel⟩
def T__law_to_1 : TM := (cmpM leD (binM addD (varM 3) (varM 4)) (varM 1))
def E__law_to_1 : EM := (varM 3)
def M__law_to : SM := (retM (biM (arg1 sumD) (consA (lcM [] (seqI (varM 0)) (tupG 3 (consG (nameG 2) (consG (nameG 3) (consG (nameG 4) nilG)))) T__law_to_1 E__law_to_1 [2, 3, 4]) nilA)))
def R__law_to : List Sl → RF := runF false 5 M__law_to
/-! ### _law_can -/
abbrev s__law_can : Stmt := top 42
def N__law_can : List Str := ["lot", "name", "heavy", "firm"]
theorem sc__law_can : FnScope N__law_can ["lot"] (defScope s__law_can) := ⟨rfl, rfl, rfl, by decide +kernel, rfl, by decide +kernel, by decide +kernel⟩
def T__law_can_1 : TM := (cmpM gtD (callM false noB R__law_to [] (consA (varM 0) (consA (binM addD (varM 2) (varM 3)) nilA))) (binM addD (varM 2) (varM 3)))
def E__law_can_1 : EM := (conM (.int 1))
def M__law_can : SM := (retM (binM eqD (lcM [] (seqI (varM 0)) (tupG 3 (consG (nameG 1) (consG (nameG 2) (consG (nameG 3) nilG)))) T__law_can_1 E__law_can_1 [1, 2, 3]) (lstM nilA)))
def R__law_can : List Sl → RF := runF false 4 M__law_can
/-! ### _law_crate -/
abbrev s__law_crate : Stmt := top 43
def N__law_crate : List Str := ["well", "name"]
theorem sc__law_crate : FnScope N__law_crate ["well", "name"] (defScope s__law_crate) := ⟨rfl, rfl, rfl, by decide +kernel, rfl, by decide +kernel, by decide +kernel⟩
def M__law_crate : SM := (retM (tupM (consA (varM 1) (consA (binM addD (conM (.int 1)) (callM true noB R__law_dip [] (consA (varM 0) (consA (conM (.int 9)) nilA)))) (consA (callM true noB R__law_dip [] (consA (varM 0) (consA (conM (.int 12)) nilA))) nilA)))))
def R__law_crate : List Sl → RF := runF true 2 M__law_crate
/-! ### _law_right -/
abbrev s__law_right : Stmt := top 44
def N__law_right : List Str := ["well", "turn", "one", "two", "due", "seen", "heavy", "firm", "more", "found", "lot", "some", "crate"]
theorem sc__law_right : FnScope N__law_right ["well"] (defScope s__law_right) := ⟨rfl, rfl, rfl, by decide +kernel, rfl, by decide +kernel, by decide +kernel⟩
def T__law_right_1 : TM := (andT (cmpM leD (ixM (varM 12) (conM (.int 1))) (ixM (varM 3) (conM (.int 1)))) (cmpM geD (ixM (varM 12) (conM (.int 2))) (ixM (varM 3) (conM (.int 2)))))
def E__law_right_1 : EM := (ixM (varM 12) (conM (.int 0)))
def L__law_right_1 : SM := (seqM (ifM (cmpM neD (binM isD (varM 9) (conM .none)) (varM 4)) (retM (conM (.bool false))) nxM) (ifM (cmpM isNotD (varM 9) (conM .none)) (seqM (ifM (orT (notT (truM (unM (isiD "tuple") (varM 9)))) (orT (cmpM neD (biM (arg1 lenD) (consA (varM 9) nilA)) (conM (.int 2))) (notT (truM (callM false noB R__law_is_number [] (consA (ixM (varM 9) (conM (.int 0))) (consA (conM (.int 1)) (consA (binM powD (conM (.int 10)) (conM (.int 9))) nilA)))))))) (retM (conM (.bool false))) nxM) (seqM (asgM 8 (tupM (consA (conM (.str "")) (consA (ixM (varM 9) (conM (.int 0))) (consA (ixM (varM 9) (conM (.int 1))) nilA))))) (ifM (orT (notT (truM (callM false noB R__law_is_number [] (consA (ixM (varM 9) (conM (.int 1))) (consA (conM (.int 0)) (consA (binM powD (conM (.int 10)) (conM (.int 9))) nilA)))))) (orT (notT (truM (callM false noB R__law_can [] (consA (tupM (consA (varM 3) (consA (varM 8) nilA))) nilA)))) (truM (callM false noB R__law_can [] (consA (tupM (consA (varM 2) (consA (varM 8) nilA))) nilA))))) (retM (conM (.bool false))) nxM))) nxM))
def L__law_right_2 : SM := (seqM (asgM 8 (tupM (consA (conM (.str "")) (consA (varM 6) (consA (varM 7) nilA))))) (asgM 5 (andE (varM 5) (orE (notE (callM false noB R__law_can [] (consA (tupM (consA (varM 3) (consA (varM 8) nilA))) nilA))) (callM false noB R__law_can [] (consA (tupM (consA (varM 2) (consA (varM 8) nilA))) nilA))))))
def L__law_right_3 : SM := (forM (rng1I (conM (.int 24))) (nameG 7) L__law_right_2)
def L__law_right_4 : SM := (seqM (parM 2 3 (consA (callM true noB R__law_crate [] (consA (varM 0) (consA (conM (.str "aq")) nilA))) (consA (callM true noB R__law_crate [] (consA (varM 0) (consA (callM true noB R__law_one [] (consA (varM 0) (consA (lstM (consA (conM (.str "aq")) (consA (conM (.str "bq")) nilA))) nilA))) nilA))) nilA))) (seqM (ifM (cmpM eqD (callM true noB R__law_dip [] (consA (varM 0) (consA (conM (.int 4)) nilA))) (conM (.int 0))) (asgM 3 (tupM (consA (conM (.str "bq")) (consA (binM addD (ixM (varM 2) (conM (.int 1))) (callM true noB R__law_dip [] (consA (varM 0) (consA (conM (.int 2)) nilA)))) (consA (biM (arg2 max2D) (consA (conM (.int 0)) (consA (binM subD (ixM (varM 2) (conM (.int 2))) (callM true noB R__law_dip [] (consA (varM 0) (consA (conM (.int 2)) nilA)))) nilA))) nilA))))) nxM) (seqM (asgM 4 (andE (binM leD (ixM (varM 2) (conM (.int 1))) (ixM (varM 3) (conM (.int 1)))) (binM geD (ixM (varM 2) (conM (.int 2))) (ixM (varM 3) (conM (.int 2)))))) (seqM (ifM (cmpM neD (biM (arg1 reprD) (consA (lstM (consA (callM false noB R_stands_in [] (consA (varM 2) (consA (varM 3) nilA))) (consA (callKM false noB R_stands_in [1, 0] (consA (varM 3) (consA (varM 2) nilA))) nilA))) nilA)) (biM (arg1 reprD) (consA (lstM (consA (varM 4) (consA (varM 4) nilA))) nilA))) (retM (conM (.bool false))) nxM) (seqM (asgM 5 (conM (.bool true))) (seqM (forM (rng2I (conM (.int 1)) (conM (.int 24))) (nameG 6) L__law_right_3) (seqM (ifM (cmpM neD (varM 5) (varM 4)) (retM (conM (.bool false))) nxM) (seqM (forM (seqI (lstM (consA (callM false noB R_where_not [] (consA (varM 2) (consA (varM 3) nilA))) (consA (callKM false noB R_where_not [1, 0] (consA (varM 3) (consA (varM 2) nilA))) nilA)))) (nameG 9) L__law_right_1) (seqM (asgM 10 (callM true noB R__law_lot [] (consA (varM 0) (consA (conM (.int 7)) nilA)))) (seqM (asgM 11 (biM (arg1 tupleD) (consA (lcM [] (seqI (varM 10)) (nameG 12) T__law_right_1 E__law_right_1 [12]) nilA))) (ifM (cmpM neD (biM (arg1 reprD) (consA (lstM (consA (callM false noB R_standing_in [] (consA (varM 10) (consA (varM 3) nilA))) (consA (callKM false noB R_standing_in [1, 0] (consA (varM 3) (consA (varM 10) nilA))) nilA))) nilA)) (biM (arg1 reprD) (consA (lstM (consA (varM 11) (consA (varM 11) nilA))) nilA))) (retM (conM (.bool false))) nxM)))))))))))
def M__law_right : SM := (seqM (forM (rng1I (conM (.int 6))) (nameG 1) L__law_right_4) (retM (conM (.bool true))))
def R__law_right : List Sl → RF := runF true 13 M__law_right
/-! ### law -/
abbrev s_law : Stmt := top 45
def N_law : List Str := ["script", "k"]
theorem sc_law : FnScope N_law ["script"] (defScope s_law) := ⟨rfl, rfl, rfl, by decide +kernel, rfl, by decide +kernel, by decide +kernel⟩
def E_law_1 : EM := (callM true noB R__law_right [] (consA (callM false noB R__law_well [] (consA (varM 0) (consA (varM 1) nilA))) nilA))
def M_law : SM := (retM (biM (arg1 allD) (consA (lcM [] (seqI (callM false noB R__law_turns [] (consA (varM 0) nilA))) (nameG 1) yesM E_law_1 [1]) nilA)))
def R_law : List Sl → RF := runF false 2 M_law
/-! ### what stands behind the top -/
structure Tx (K : PySem.W.Frag) (mg : Str → Option Value) where
  f_is_whole : Addr
  fd_is_whole : FuncData
  co_is_whole : Value
  F_is_whole : FunX K "is_whole" s_is_whole .none f_is_whole fd_is_whole co_is_whole
  g_is_whole : mg "is_whole" = some (.ref f_is_whole)
  f_is_number : Addr
  fd_is_number : FuncData
  co_is_number : Value
  F_is_number : FunX K "is_number" s_is_number .none f_is_number fd_is_number co_is_number
  g_is_number : mg "is_number" = some (.ref f_is_number)
  f_is_tuple_of : Addr
  fd_is_tuple_of : FuncData
  co_is_tuple_of : Value
  F_is_tuple_of : FunX K "is_tuple_of" s_is_tuple_of .none f_is_tuple_of fd_is_tuple_of co_is_tuple_of
  g_is_tuple_of : mg "is_tuple_of" = some (.ref f_is_tuple_of)
  f_wrong_at : Addr
  fd_wrong_at : FuncData
  co_wrong_at : Value
  F_wrong_at : FunX K "wrong_at" s_wrong_at .none f_wrong_at fd_wrong_at co_wrong_at
  g_wrong_at : mg "wrong_at" = some (.ref f_wrong_at)
  f_is_letters : Addr
  fd_is_letters : FuncData
  co_is_letters : Value
  F_is_letters : FunX K "is_letters" s_is_letters .none f_is_letters fd_is_letters co_is_letters
  g_is_letters : mg "is_letters" = some (.ref f_is_letters)
  f_is_name : Addr
  fd_is_name : FuncData
  co_is_name : Value
  F_is_name : FunX K "is_name" s_is_name .none f_is_name fd_is_name co_is_name
  g_is_name : mg "is_name" = some (.ref f_is_name)
  f_is_crate_form : Addr
  fd_is_crate_form : FuncData
  co_is_crate_form : Value
  F_is_crate_form : FunX K "is_crate_form" s_is_crate_form .none f_is_crate_form fd_is_crate_form co_is_crate_form
  g_is_crate_form : mg "is_crate_form" = some (.ref f_is_crate_form)
  dT_wrong_lot : Addr
  dE_wrong_lot : Addr
  dO_wrong_lot : Obj
  dm_wrong_lot : Nat
  dl_wrong_lot : K.lookup dT_wrong_lot = some dO_wrong_lot
  dd_wrong_lot : dO_wrong_lot.data = .seq [Value.ref dE_wrong_lot].toArray dm_wrong_lot
  dq_wrong_lot : Dfl K [.ref dE_wrong_lot] [.ref dE_wrong_lot] [.tuple []]
  f_wrong_lot : Addr
  fd_wrong_lot : FuncData
  co_wrong_lot : Value
  F_wrong_lot : FunX K "wrong_lot" s_wrong_lot (.ref dT_wrong_lot) f_wrong_lot fd_wrong_lot co_wrong_lot
  g_wrong_lot : mg "wrong_lot" = some (.ref f_wrong_lot)
  tc_wrong_lot : Addr
  tp_wrong_lot : Addr
  cd_wrong_lot : co_wrong_lot = .ref tc_wrong_lot
  f_weight_up_to : Addr
  fd_weight_up_to : FuncData
  co_weight_up_to : Value
  F_weight_up_to : FunX K "weight_up_to" s_weight_up_to .none f_weight_up_to fd_weight_up_to co_weight_up_to
  g_weight_up_to : mg "weight_up_to" = some (.ref f_weight_up_to)
  f_greatest_bound : Addr
  fd_greatest_bound : FuncData
  co_greatest_bound : Value
  F_greatest_bound : FunX K "greatest_bound" s_greatest_bound .none f_greatest_bound fd_greatest_bound co_greatest_bound
  g_greatest_bound : mg "greatest_bound" = some (.ref f_greatest_bound)
  f_check_lot : Addr
  fd_check_lot : FuncData
  co_check_lot : Value
  F_check_lot : FunX K "check_lot" s_check_lot .none f_check_lot fd_check_lot co_check_lot
  g_check_lot : mg "check_lot" = some (.ref f_check_lot)
  f_check_crate : Addr
  fd_check_crate : FuncData
  co_check_crate : Value
  F_check_crate : FunX K "check_crate" s_check_crate .none f_check_crate fd_check_crate co_check_crate
  g_check_crate : mg "check_crate" = some (.ref f_check_crate)
  f_room_at : Addr
  fd_room_at : FuncData
  co_room_at : Value
  F_room_at : FunX K "room_at" s_room_at .none f_room_at fd_room_at co_room_at
  g_room_at : mg "room_at" = some (.ref f_room_at)
  f_barred_of : Addr
  fd_barred_of : FuncData
  co_barred_of : Value
  F_barred_of : FunX K "barred_of" s_barred_of .none f_barred_of fd_barred_of co_barred_of
  g_barred_of : mg "barred_of" = some (.ref f_barred_of)
  f_does_for : Addr
  fd_does_for : FuncData
  co_does_for : Value
  F_does_for : FunX K "does_for" s_does_for .none f_does_for fd_does_for co_does_for
  g_does_for : mg "does_for" = some (.ref f_does_for)
  f_stands_in : Addr
  fd_stands_in : FuncData
  co_stands_in : Value
  F_stands_in : FunX K "stands_in" s_stands_in .none f_stands_in fd_stands_in co_stands_in
  g_stands_in : mg "stands_in" = some (.ref f_stands_in)
  f_where_not : Addr
  fd_where_not : FuncData
  co_where_not : Value
  F_where_not : FunX K "where_not" s_where_not .none f_where_not fd_where_not co_where_not
  g_where_not : mg "where_not" = some (.ref f_where_not)
  f_standing_in : Addr
  fd_standing_in : FuncData
  co_standing_in : Value
  F_standing_in : FunX K "standing_in" s_standing_in .none f_standing_in fd_standing_in co_standing_in
  g_standing_in : mg "standing_in" = some (.ref f_standing_in)
  f__law_well : Addr
  fd__law_well : FuncData
  co__law_well : Value
  F__law_well : FunX K "_law_well" s__law_well .none f__law_well fd__law_well co__law_well
  g__law_well : mg "_law_well" = some (.ref f__law_well)
  f__law_dip : Addr
  fd__law_dip : FuncData
  co__law_dip : Value
  F__law_dip : FunX K "_law_dip" s__law_dip .none f__law_dip fd__law_dip co__law_dip
  g__law_dip : mg "_law_dip" = some (.ref f__law_dip)
  f__law_one : Addr
  fd__law_one : FuncData
  co__law_one : Value
  F__law_one : FunX K "_law_one" s__law_one .none f__law_one fd__law_one co__law_one
  g__law_one : mg "_law_one" = some (.ref f__law_one)
  f__law_turns : Addr
  fd__law_turns : FuncData
  co__law_turns : Value
  F__law_turns : FunX K "_law_turns" s__law_turns .none f__law_turns fd__law_turns co__law_turns
  g__law_turns : mg "_law_turns" = some (.ref f__law_turns)
  f__law_is_number : Addr
  fd__law_is_number : FuncData
  co__law_is_number : Value
  F__law_is_number : FunX K "_law_is_number" s__law_is_number .none f__law_is_number fd__law_is_number co__law_is_number
  g__law_is_number : mg "_law_is_number" = some (.ref f__law_is_number)
  f__law_words : Addr
  fd__law_words : FuncData
  co__law_words : Value
  F__law_words : FunX K "_law_words" s__law_words .none f__law_words fd__law_words co__law_words
  g__law_words : mg "_law_words" = some (.ref f__law_words)
  f__law_lot : Addr
  fd__law_lot : FuncData
  co__law_lot : Value
  F__law_lot : FunX K "_law_lot" s__law_lot .none f__law_lot fd__law_lot co__law_lot
  g__law_lot : mg "_law_lot" = some (.ref f__law_lot)
  f__law_to : Addr
  fd__law_to : FuncData
  co__law_to : Value
  F__law_to : FunX K "_law_to" s__law_to .none f__law_to fd__law_to co__law_to
  g__law_to : mg "_law_to" = some (.ref f__law_to)
  f__law_can : Addr
  fd__law_can : FuncData
  co__law_can : Value
  F__law_can : FunX K "_law_can" s__law_can .none f__law_can fd__law_can co__law_can
  g__law_can : mg "_law_can" = some (.ref f__law_can)
  f__law_crate : Addr
  fd__law_crate : FuncData
  co__law_crate : Value
  F__law_crate : FunX K "_law_crate" s__law_crate .none f__law_crate fd__law_crate co__law_crate
  g__law_crate : mg "_law_crate" = some (.ref f__law_crate)
  f__law_right : Addr
  fd__law_right : FuncData
  co__law_right : Value
  F__law_right : FunX K "_law_right" s__law_right .none f__law_right fd__law_right co__law_right
  g__law_right : mg "_law_right" = some (.ref f__law_right)
  f_law : Addr
  fd_law : FuncData
  co_law : Value
  F_law : FunX K "law" s_law .none f_law fd_law co_law
  g_law : mg "law" = some (.ref f_law)
  c_MOST_BEARS : GlobD K mg "MOST_BEARS" C_MOST_BEARS
  c_MOST_CRATES : GlobD K mg "MOST_CRATES" C_MOST_CRATES
  c_MOST_IN_NAME : GlobD K mg "MOST_IN_NAME" C_MOST_IN_NAME
  c_MOST_WEIGHT : GlobD K mg "MOST_WEIGHT" C_MOST_WEIGHT
  c_SMALL_LETTERS : GlobD K mg "SMALL_LETTERS" C_SMALL_LETTERS
  c_WORDS : GlobD K mg "WORDS" C_WORDS
  b_abs : mg "abs" = none
  b_all : mg "all" = none
  b_bool : mg "bool" = none
  b_divmod : mg "divmod" = none
  b_enumerate : mg "enumerate" = none
  b_int : mg "int" = none
  b_isinstance : mg "isinstance" = none
  b_len : mg "len" = none
  b_list : mg "list" = none
  b_max : mg "max" = none
  b_min : mg "min" = none
  b_range : mg "range" = none
  b_repr : mg "repr" = none
  b_sorted : mg "sorted" = none
  b_str : mg "str" = none
  b_sum : mg "sum" = none
  b_tuple : mg "tuple" = none
section
variable {K : PySem.W.Frag} {mg : Str → Option Value}
theorem b_is_whole (E : Tx K mg) : ∀ (s : Shared) (us : List Value), K.In s.heap → (us ++ []).length = (["value"] : List Str).length → BindsTo s E.fd_is_whole ⟨us, []⟩ ((["value"] : List Str).zip (us ++ [])) := E.F_is_whole.b0 fun _ _ _ _ _ us hl => match us, hl with | [_], _ => rfl
theorem b_is_number (E : Tx K mg) : ∀ (s : Shared) (us : List Value), K.In s.heap → (us ++ []).length = (["value", "low", "high"] : List Str).length → BindsTo s E.fd_is_number ⟨us, []⟩ ((["value", "low", "high"] : List Str).zip (us ++ [])) := E.F_is_number.b0 fun _ _ _ _ _ us hl => match us, hl with | [_, _, _], _ => rfl
theorem b_is_tuple_of (E : Tx K mg) : ∀ (s : Shared) (us : List Value), K.In s.heap → (us ++ []).length = (["value", "many"] : List Str).length → BindsTo s E.fd_is_tuple_of ⟨us, []⟩ ((["value", "many"] : List Str).zip (us ++ [])) := E.F_is_tuple_of.b0 fun _ _ _ _ _ us hl => match us, hl with | [_, _], _ => rfl
theorem b_wrong_at (E : Tx K mg) : ∀ (s : Shared) (us : List Value), K.In s.heap → (us ++ []).length = (["values", "most", "is_right"] : List Str).length → BindsTo s E.fd_wrong_at ⟨us, []⟩ ((["values", "most", "is_right"] : List Str).zip (us ++ [])) := E.F_wrong_at.b0 fun _ _ _ _ _ us hl => match us, hl with | [_, _, _], _ => rfl
theorem b_is_letters (E : Tx K mg) : ∀ (s : Shared) (us : List Value), K.In s.heap → (us ++ []).length = (["value", "least", "most"] : List Str).length → BindsTo s E.fd_is_letters ⟨us, []⟩ ((["value", "least", "most"] : List Str).zip (us ++ [])) := E.F_is_letters.b0 fun _ _ _ _ _ us hl => match us, hl with | [_, _, _], _ => rfl
theorem b_is_name (E : Tx K mg) : ∀ (s : Shared) (us : List Value), K.In s.heap → (us ++ []).length = (["value"] : List Str).length → BindsTo s E.fd_is_name ⟨us, []⟩ ((["value"] : List Str).zip (us ++ [])) := E.F_is_name.b0 fun _ _ _ _ _ us hl => match us, hl with | [_], _ => rfl
theorem b_is_crate_form (E : Tx K mg) : ∀ (s : Shared) (us : List Value), K.In s.heap → (us ++ []).length = (["value"] : List Str).length → BindsTo s E.fd_is_crate_form ⟨us, []⟩ ((["value"] : List Str).zip (us ++ [])) := E.F_is_crate_form.b0 fun _ _ _ _ _ us hl => match us, hl with | [_], _ => rfl
theorem bd_wrong_lot (E : Tx K mg) : ∀ (s : Shared) (us : List Value), K.In s.heap → (us ++ [Value.ref E.dE_wrong_lot]).length = (["value", "barred"] : List Str).length → BindsTo s E.fd_wrong_lot ⟨us, []⟩ ((["value", "barred"] : List Str).zip (us ++ [Value.ref E.dE_wrong_lot])) := E.F_wrong_lot.bd (n := 1) E.dl_wrong_lot E.dd_wrong_lot (fun _ _ _ _ _ us hl => match us, hl with | [_], _ => ⟨_, rfl, rfl⟩) rfl
theorem b_weight_up_to (E : Tx K mg) : ∀ (s : Shared) (us : List Value), K.In s.heap → (us ++ []).length = (["lot", "most"] : List Str).length → BindsTo s E.fd_weight_up_to ⟨us, []⟩ ((["lot", "most"] : List Str).zip (us ++ [])) := E.F_weight_up_to.b0 fun _ _ _ _ _ us hl => match us, hl with | [_, _], _ => rfl
theorem b_greatest_bound (E : Tx K mg) : ∀ (s : Shared) (us : List Value), K.In s.heap → (us ++ []).length = (["lot"] : List Str).length → BindsTo s E.fd_greatest_bound ⟨us, []⟩ ((["lot"] : List Str).zip (us ++ [])) := E.F_greatest_bound.b0 fun _ _ _ _ _ us hl => match us, hl with | [_], _ => rfl
theorem b_check_lot (E : Tx K mg) : ∀ (s : Shared) (us : List Value), K.In s.heap → (us ++ []).length = (["value"] : List Str).length → BindsTo s E.fd_check_lot ⟨us, []⟩ ((["value"] : List Str).zip (us ++ [])) := E.F_check_lot.b0 fun _ _ _ _ _ us hl => match us, hl with | [_], _ => rfl
theorem b_check_crate (E : Tx K mg) : ∀ (s : Shared) (us : List Value), K.In s.heap → (us ++ []).length = (["value"] : List Str).length → BindsTo s E.fd_check_crate ⟨us, []⟩ ((["value"] : List Str).zip (us ++ [])) := E.F_check_crate.b0 fun _ _ _ _ _ us hl => match us, hl with | [_], _ => rfl
theorem b_room_at (E : Tx K mg) : ∀ (s : Shared) (us : List Value), K.In s.heap → (us ++ []).length = (["lot", "number"] : List Str).length → BindsTo s E.fd_room_at ⟨us, []⟩ ((["lot", "number"] : List Str).zip (us ++ [])) := E.F_room_at.b0 fun _ _ _ _ _ us hl => match us, hl with | [_, _], _ => rfl
theorem b_barred_of (E : Tx K mg) : ∀ (s : Shared) (us : List Value), K.In s.heap → (us ++ []).length = (["lot", "other"] : List Str).length → BindsTo s E.fd_barred_of ⟨us, []⟩ ((["lot", "other"] : List Str).zip (us ++ [])) := E.F_barred_of.b0 fun _ _ _ _ _ us hl => match us, hl with | [_, _], _ => rfl
theorem b_does_for (E : Tx K mg) : ∀ (s : Shared) (us : List Value), K.In s.heap → (us ++ []).length = (["crate", "other"] : List Str).length → BindsTo s E.fd_does_for ⟨us, []⟩ ((["crate", "other"] : List Str).zip (us ++ [])) := E.F_does_for.b0 fun _ _ _ _ _ us hl => match us, hl with | [_, _], _ => rfl
theorem b_stands_in (E : Tx K mg) : ∀ (s : Shared) (us : List Value), K.In s.heap → (us ++ []).length = (["crate", "crate2"] : List Str).length → BindsTo s E.fd_stands_in ⟨us, []⟩ ((["crate", "crate2"] : List Str).zip (us ++ [])) := E.F_stands_in.b0 fun _ _ _ _ _ us hl => match us, hl with | [_, _], _ => rfl
theorem b_where_not (E : Tx K mg) : ∀ (s : Shared) (us : List Value), K.In s.heap → (us ++ []).length = (["crate", "crate2"] : List Str).length → BindsTo s E.fd_where_not ⟨us, []⟩ ((["crate", "crate2"] : List Str).zip (us ++ [])) := E.F_where_not.b0 fun _ _ _ _ _ us hl => match us, hl with | [_, _], _ => rfl
theorem b_standing_in (E : Tx K mg) : ∀ (s : Shared) (us : List Value), K.In s.heap → (us ++ []).length = (["lot", "crate"] : List Str).length → BindsTo s E.fd_standing_in ⟨us, []⟩ ((["lot", "crate"] : List Str).zip (us ++ [])) := E.F_standing_in.b0 fun _ _ _ _ _ us hl => match us, hl with | [_, _], _ => rfl
theorem b__law_well (E : Tx K mg) : ∀ (s : Shared) (us : List Value), K.In s.heap → (us ++ []).length = (["script", "k"] : List Str).length → BindsTo s E.fd__law_well ⟨us, []⟩ ((["script", "k"] : List Str).zip (us ++ [])) := E.F__law_well.b0 fun _ _ _ _ _ us hl => match us, hl with | [_, _], _ => rfl
theorem b__law_dip (E : Tx K mg) : ∀ (s : Shared) (us : List Value), K.In s.heap → (us ++ []).length = (["well", "many"] : List Str).length → BindsTo s E.fd__law_dip ⟨us, []⟩ ((["well", "many"] : List Str).zip (us ++ [])) := E.F__law_dip.b0 fun _ _ _ _ _ us hl => match us, hl with | [_, _], _ => rfl
theorem b__law_one (E : Tx K mg) : ∀ (s : Shared) (us : List Value), K.In s.heap → (us ++ []).length = (["well", "some"] : List Str).length → BindsTo s E.fd__law_one ⟨us, []⟩ ((["well", "some"] : List Str).zip (us ++ [])) := E.F__law_one.b0 fun _ _ _ _ _ us hl => match us, hl with | [_, _], _ => rfl
theorem b__law_turns (E : Tx K mg) : ∀ (s : Shared) (us : List Value), K.In s.heap → (us ++ []).length = (["script"] : List Str).length → BindsTo s E.fd__law_turns ⟨us, []⟩ ((["script"] : List Str).zip (us ++ [])) := E.F__law_turns.b0 fun _ _ _ _ _ us hl => match us, hl with | [_], _ => rfl
theorem b__law_is_number (E : Tx K mg) : ∀ (s : Shared) (us : List Value), K.In s.heap → (us ++ []).length = (["value", "low", "high"] : List Str).length → BindsTo s E.fd__law_is_number ⟨us, []⟩ ((["value", "low", "high"] : List Str).zip (us ++ [])) := E.F__law_is_number.b0 fun _ _ _ _ _ us hl => match us, hl with | [_, _, _], _ => rfl
theorem b__law_words (E : Tx K mg) : ∀ (s : Shared) (us : List Value), K.In s.heap → (us ++ []).length = (["well", "many"] : List Str).length → BindsTo s E.fd__law_words ⟨us, []⟩ ((["well", "many"] : List Str).zip (us ++ [])) := E.F__law_words.b0 fun _ _ _ _ _ us hl => match us, hl with | [_, _], _ => rfl
theorem b__law_lot (E : Tx K mg) : ∀ (s : Shared) (us : List Value), K.In s.heap → (us ++ []).length = (["well", "most"] : List Str).length → BindsTo s E.fd__law_lot ⟨us, []⟩ ((["well", "most"] : List Str).zip (us ++ [])) := E.F__law_lot.b0 fun _ _ _ _ _ us hl => match us, hl with | [_, _], _ => rfl
theorem b__law_to (E : Tx K mg) : ∀ (s : Shared) (us : List Value), K.In s.heap → (us ++ []).length = (["lot", "number"] : List Str).length → BindsTo s E.fd__law_to ⟨us, []⟩ ((["lot", "number"] : List Str).zip (us ++ [])) := E.F__law_to.b0 fun _ _ _ _ _ us hl => match us, hl with | [_, _], _ => rfl
theorem b__law_can (E : Tx K mg) : ∀ (s : Shared) (us : List Value), K.In s.heap → (us ++ []).length = (["lot"] : List Str).length → BindsTo s E.fd__law_can ⟨us, []⟩ ((["lot"] : List Str).zip (us ++ [])) := E.F__law_can.b0 fun _ _ _ _ _ us hl => match us, hl with | [_], _ => rfl
theorem b__law_crate (E : Tx K mg) : ∀ (s : Shared) (us : List Value), K.In s.heap → (us ++ []).length = (["well", "name"] : List Str).length → BindsTo s E.fd__law_crate ⟨us, []⟩ ((["well", "name"] : List Str).zip (us ++ [])) := E.F__law_crate.b0 fun _ _ _ _ _ us hl => match us, hl with | [_, _], _ => rfl
theorem b__law_right (E : Tx K mg) : ∀ (s : Shared) (us : List Value), K.In s.heap → (us ++ []).length = (["well"] : List Str).length → BindsTo s E.fd__law_right ⟨us, []⟩ ((["well"] : List Str).zip (us ++ [])) := E.F__law_right.b0 fun _ _ _ _ _ us hl => match us, hl with | [_], _ => rfl
theorem b_law (E : Tx K mg) : ∀ (s : Shared) (us : List Value), K.In s.heap → (us ++ []).length = (["script"] : List Str).length → BindsTo s E.fd_law ⟨us, []⟩ ((["script"] : List Str).zip (us ++ [])) := E.F_law.b0 fun _ _ _ _ _ us hl => match us, hl with | [_], _ => rfl
theorem bk_standing_in_crate_lot (E : Tx K mg) : ∀ (s : Shared) (us : List Value), K.In s.heap → us.length = (["crate", "lot"] : List Str).length → BindsTo s E.fd_standing_in ⟨[], (["crate", "lot"] : List Str).zip us⟩ ((["lot", "crate"] : List Str).zip (pick us [1, 0])) := E.F_standing_in.bk fun _ _ _ _ _ us hl => match us, hl with | [_, _], _ => rfl
theorem bk_stands_in_crate2_crate (E : Tx K mg) : ∀ (s : Shared) (us : List Value), K.In s.heap → us.length = (["crate2", "crate"] : List Str).length → BindsTo s E.fd_stands_in ⟨[], (["crate2", "crate"] : List Str).zip us⟩ ((["crate", "crate2"] : List Str).zip (pick us [1, 0])) := E.F_stands_in.bk fun _ _ _ _ _ us hl => match us, hl with | [_, _], _ => rfl
theorem bk_where_not_crate2_crate (E : Tx K mg) : ∀ (s : Shared) (us : List Value), K.In s.heap → us.length = (["crate2", "crate"] : List Str).length → BindsTo s E.fd_where_not ⟨[], (["crate2", "crate"] : List Str).zip us⟩ ((["crate", "crate2"] : List Str).zip (pick us [1, 0])) := E.F_where_not.bk fun _ _ _ _ _ us hl => match us, hl with | [_, _], _ => rfl
end
theorem ok_is_whole {P : Program} {w : World} {K : PySem.W.Frag} {mg : Str → Option Value} {base : Heap} {T : List NTab} (E : Tx K mg) : FnC P w K mg base T 1 E.f_is_whole E.fd_is_whole ["value"] false R_is_whole := by
  refine FunX.ok (k := 0) (io := false) E.F_is_whole sc_is_whole (fun _ => []) ?_
  intro A outer s H E0 X F W hX hT hnds hnp hr hga tk hclo hpo
  subst hT
  subst hX
  exact (DSs.one (DS.ret (DE.and (DE.isi (DE.var 0) E.b_isinstance E.b_int) (DE.one (DE.not (DE.isi (DE.var 0) E.b_isinstance E.b_bool))))))
theorem ok_is_number {P : Program} {w : World} {K : PySem.W.Frag} {mg : Str → Option Value} {base : Heap} {T : List NTab} (E : Tx K mg) : FnC P w K mg base T 2 E.f_is_number E.fd_is_number ["value", "low", "high"] false R_is_number := by
  refine FunX.ok (k := 1) (io := false) E.F_is_number sc_is_number (fun _ => []) ?_
  intro A outer s H E0 X F W hX hT hnds hnp hr hga tk hclo hpo
  subst hT
  subst hX
  exact (DSs.cons (DS.if (DT.ofW (DW.or (DT.not (DT.tru (DE.call (ok_is_whole (P := P) (w := w) (base := base) E) (hr.mono (by decide)) hga tk NdC.no .nil E.g_is_whole E.F_is_whole.kp (b_is_whole E) rfl (LenA.cons LenA.nil) (DA.cons (DE.var 0) DA.nil)))) (DW.or1 (DT.ofW (DW.and (DT.cmp op_isNotD (DE.var 1) DE.none (nomark _)) (DW.and1 (DT.cmp (op_ltD hr) (DE.var 0) (DE.var 1) (nomark _)))))))) (DSs.one (DS.ret DE.bool)) DSs.nil) (DSs.one (DS.ret (DE.or (DE.cmp op_isD (DE.var 2) DE.none (nomark _)) (DE.one (DE.cmp (op_leD hr) (DE.var 0) (DE.var 2) (nomark _)))))))
theorem ok_is_tuple_of {P : Program} {w : World} {K : PySem.W.Frag} {mg : Str → Option Value} {base : Heap} {T : List NTab} (E : Tx K mg) : FnC P w K mg base T 1 E.f_is_tuple_of E.fd_is_tuple_of ["value", "many"] false R_is_tuple_of := by
  refine FunX.ok (k := 0) (io := false) E.F_is_tuple_of sc_is_tuple_of (fun _ => []) ?_
  intro A outer s H E0 X F W hX hT hnds hnp hr hga tk hclo hpo
  subst hT
  subst hX
  exact (DSs.one (DS.ret (DE.and (DE.isi (DE.var 0) E.b_isinstance E.b_tuple) (DE.one (DE.cmp (op_eqD' hr) (DE.callB bi_len (DA.cons (DE.var 0) DA.nil) E.b_len) (DE.var 1) (nomark _))))))
theorem ok_wrong_at {P : Program} {w : World} {K : PySem.W.Frag} {mg : Str → Option Value} {base : Heap} {T : List NTab} (E : Tx K mg) : FnC P w K mg base T 41 E.f_wrong_at E.fd_wrong_at ["values", "most", "is_right"] false R_wrong_at := by
  refine FunX.ok (k := 40) (io := false) E.F_wrong_at sc_wrong_at (fun _ => []) ?_
  intro A outer s H E0 X F W hX hT hnds hnp hr hga tk hclo hpo
  subst hT
  subst hX
  exact (DSs.cons (DS.if (DT.not (DT.tru (DE.isi (DE.var 0) E.b_isinstance E.b_tuple))) (DSs.one (DS.ret (DE.lst (DA.cons DE.none DA.nil)))) DSs.nil) (DSs.cons (DS.for hpo rfl (DI.enum (DE.var 0) E.b_enumerate) (DG.tup (n := 2) rfl (DGs.cons (DG.name (i := 3) sc_wrong_at.nd rfl (by first | exact .inl rfl | exact .inr rfl) (by rw [hnp]; decide)) (DGs.cons (DG.name (i := 4) sc_wrong_at.nd rfl (by first | exact .inl rfl | exact .inr rfl) (by rw [hnp]; decide)) DGs.nil))) (DSs.one (DS.if (DT.ofW (DW.or (DT.cmp (op_eqD' hr) (DE.var 3) (DE.var 1) (nomark _)) (DW.or1 (DT.not (DT.tru (DE.clo (i := 2) (hclo (hr.mono (by decide))) rfl (DA.cons (DE.var 4) (DA.cons (DE.sl (DE.var 0) DO.none (DO.some (DE.var 3))) DA.nil)))))))) (DSs.one (DS.ret (DE.lst (DA.cons (DE.var 3) DA.nil)))) DSs.nil))) (DSs.one (DS.ret (DE.lst DA.nil)))))
theorem ok_is_letters {P : Program} {w : World} {K : PySem.W.Frag} {mg : Str → Option Value} {base : Heap} {T : List NTab} (E : Tx K mg) : FnC P w K mg base T 1 E.f_is_letters E.fd_is_letters ["value", "least", "most"] false R_is_letters := by
  refine FunX.ok (k := 0) (io := false) E.F_is_letters sc_is_letters (fun _ => []) ?_
  intro A outer s H E0 X F W hX hT hnds hnp hr hga tk hclo hpo
  subst hT
  subst hX
  exact (DSs.cons (DS.if (DT.ofW (DW.or (DT.not (DT.tru (DE.isi (DE.var 0) E.b_isinstance E.b_str))) (DW.or1 (DT.not (DT.chain (op_leD hr) (op_leD hr) (DE.var 1) (DE.callB bi_len (DA.cons (DE.var 0) DA.nil) E.b_len) (DE.var 2)))))) (DSs.one (DS.ret DE.bool)) DSs.nil) (DSs.one (DS.ret (DE.callB (bi_all rfl) (DA.cons (DE.lc (own := [("letter", 3)]) rfl sc_is_letters.nd (DI.seq (DE.var 0)) (blkOk_by (N := N_is_letters) (sc := (defScope s_is_letters)) (own := [("letter", 3)]) (by decide +kernel)) (by decide) (fun _ _ _ _ _ => (DG.name (i := 3) sc_is_letters.nd rfl (by first | exact .inl rfl | exact .inr rfl) (by rw [hnp]; decide))) (fun _ _ _ _ _ => DTs.nil) (fun _ _ _ _ _ => (DE.cmp (op_inD' hr) (DE.var 3) (DE.glob E.c_SMALL_LETTERS) rfl))) DA.nil) E.b_all))))
theorem ok_is_name {P : Program} {w : World} {K : PySem.W.Frag} {mg : Str → Option Value} {base : Heap} {T : List NTab} (E : Tx K mg) : FnC P w K mg base T 2 E.f_is_name E.fd_is_name ["value"] false R_is_name := by
  refine FunX.ok (k := 1) (io := false) E.F_is_name sc_is_name (fun _ => []) ?_
  intro A outer s H E0 X F W hX hT hnds hnp hr hga tk hclo hpo
  subst hT
  subst hX
  exact (DSs.one (DS.ret (DE.and (DE.call (ok_is_letters (P := P) (w := w) (base := base) E) (hr.mono (by decide)) hga tk NdC.no .nil E.g_is_letters E.F_is_letters.kp (b_is_letters E) rfl (LenA.cons (LenA.cons (LenA.cons LenA.nil))) (DA.cons (DE.var 0) (DA.cons DE.int (DA.cons (DE.glob E.c_MOST_IN_NAME) DA.nil)))) (DE.one (DE.cmp (op_notInD' hr) (DE.var 0) (DE.glob E.c_WORDS) rfl)))))
theorem ok_is_crate_form {P : Program} {w : World} {K : PySem.W.Frag} {mg : Str → Option Value} {base : Heap} {T : List NTab} (E : Tx K mg) : FnC P w K mg base T 3 E.f_is_crate_form E.fd_is_crate_form ["value"] false R_is_crate_form := by
  refine FunX.ok (k := 2) (io := false) E.F_is_crate_form sc_is_crate_form (fun _ => []) ?_
  intro A outer s H E0 X F W hX hT hnds hnp hr hga tk hclo hpo
  subst hT
  subst hX
  exact (DSs.cons (DS.if (DT.ofW (DW.or (DT.not (DT.tru (DE.call (ok_is_tuple_of (P := P) (w := w) (base := base) E) (hr.mono (by decide)) hga tk NdC.no .nil E.g_is_tuple_of E.F_is_tuple_of.kp (b_is_tuple_of E) rfl (LenA.cons (LenA.cons LenA.nil)) (DA.cons (DE.var 0) (DA.cons DE.int DA.nil))))) (DW.or1 (DT.not (DT.tru (DE.call (ok_is_name (P := P) (w := w) (base := base) E) (hr.mono (by decide)) hga tk NdC.no .nil E.g_is_name E.F_is_name.kp (b_is_name E) rfl (LenA.cons LenA.nil) (DA.cons (DE.ix (room_ix hr) (DE.var 0) DE.int (fun _ _ => rfl)) DA.nil))))))) (DSs.one (DS.ret DE.bool)) DSs.nil) (DSs.one (DS.ret (DE.and (DE.call (ok_is_number (P := P) (w := w) (base := base) E) (hr.mono (by decide)) hga tk NdC.no .nil E.g_is_number E.F_is_number.kp (b_is_number E) rfl (LenA.cons (LenA.cons (LenA.cons LenA.nil))) (DA.cons (DE.ix (room_ix hr) (DE.var 0) DE.int (fun _ _ => rfl)) (DA.cons DE.int (DA.cons (DE.glob E.c_MOST_WEIGHT) DA.nil)))) (DE.one (DE.call (ok_is_number (P := P) (w := w) (base := base) E) (hr.mono (by decide)) hga tk NdC.no .nil E.g_is_number E.F_is_number.kp (b_is_number E) rfl (LenA.cons (LenA.cons (LenA.cons LenA.nil))) (DA.cons (DE.ix (room_ix hr) (DE.var 0) DE.int (fun _ _ => rfl)) (DA.cons DE.int (DA.cons (DE.glob E.c_MOST_BEARS) DA.nil)))))))))
theorem ok_wrong_lot {P : Program} {w : World} {K : PySem.W.Frag} {mg : Str → Option Value} {base : Heap} {T : List NTab} (E : Tx K mg) (TB_wrong_lot : TabB base mg E.tc_wrong_lot E.tp_wrong_lot) (hm_wrong_lot : (E.tp_wrong_lot, nm_wrong_lot) ∈ T) (hu_wrong_lot : ∀ p ∈ T, p.1 = E.tp_wrong_lot → p.2 = nm_wrong_lot) : FnC P w K mg base T 42 E.f_wrong_lot E.fd_wrong_lot ["value", "barred"] false R_wrong_lot := by
  refine FunX.ok (k := 41) (io := false) E.F_wrong_lot sc_wrong_lot (fun X => [⟨fun q c => FnO q (mk_is_right X c), "wrong_lot.<locals>.is_right", [], fun _ _ => .bad⟩]) ?_
  intro A outer s H E0 X F W hX hT hnds hnp hr hga tk hclo hpo
  subst hT
  have hnd : NdC F X nb_wrong_lot := by
    subst hX
    refine NdC.one (k := 4) (ps := ["each", "before"]) (fr := ["barred"]) hnds rfl (fun _ => rfl) (fun _ => rfl) (fun _ => rfl) (fun ok => Caps.made ok (ndef_free nd_wrong_lot) (ndef_fr nd_wrong_lot) rfl) (fun _ => nsc_is_right) ?_ (by decide) ?_
    · intro c doc pm ctv us hl
      match us, hl with | [_, _], _ => rfl
    · intro q c A outer s H E0 X F' W hX hT hnp hr hga tk hpo
      have hTe := hT
      subst hX
      obtain ⟨T', hT'⟩ : ∃ T', T' = F.T := ⟨_, rfl⟩
      show DSs F' W _ (defBody s_is_right) M_is_right
      skip
      exact (DSs.cons (DS.if (DT.ofW (DW.or (DT.not (DT.tru (DE.call (ok_is_crate_form (P := P) (w := w) (base := base) E) (hr.mono (by decide)) hga tk NdC.no .nil E.g_is_crate_form E.F_is_crate_form.kp (b_is_crate_form E) rfl (LenA.cons LenA.nil) (DA.cons (DE.var 0) DA.nil)))) (DW.or1 (DT.cmp (op_inD' hr) (DE.ix (room_ix hr) (DE.var 0) DE.int (fun _ _ => rfl)) (DE.var 2) rfl)))) (DSs.one (DS.ret DE.bool)) DSs.nil) (DSs.one (DS.ret (DE.or (DE.cmp (op_eqD' hr) (DE.var 1) (DE.tup DA.nil) (nomark _)) (DE.one (DE.cmp (op_ltD hr) (DE.ix (room_ix hr) (DE.ix (room_ix hr) (DE.var 1) (DE.un un_negD DE.int) (fun _ _ => rfl)) DE.int (fun _ _ => rfl)) (DE.ix (room_ix hr) (DE.var 0) DE.int (fun _ _ => rfl)) (nomark _)))))))
  have hsd : DS F W X s_is_right (ndefM 2 0) := by
    subst hX
    exact DS.ndef TB_wrong_lot E.cd_wrong_lot hm_wrong_lot rfl hu_wrong_lot (ndef_free nd_wrong_lot) rfl rfl rfl sc_wrong_lot.nd rfl (by first | exact .inl rfl | exact .inr rfl) (by first | exact .inl rfl | exact .inr rfl) (by rw [hnds]; rfl) rfl rfl
  subst hX
  exact (DSs.cons hsd (DSs.one (DS.ret (DE.call (ok_wrong_at (P := P) (w := w) (base := base) E) (hr.mono (by decide)) hga tk hnd .nil E.g_wrong_at E.F_wrong_at.kp (b_wrong_at E) rfl (LenA.cons (LenA.cons (LenA.cons LenA.nil))) (DA.cons (DE.var 0) (DA.cons (DE.glob E.c_MOST_CRATES) (DA.cons (DE.var 2) DA.nil)))))))
theorem ok_weight_up_to {P : Program} {w : World} {K : PySem.W.Frag} {mg : Str → Option Value} {base : Heap} {T : List NTab} (E : Tx K mg) : FnC P w K mg base T 1 E.f_weight_up_to E.fd_weight_up_to ["lot", "most"] false R_weight_up_to := by
  refine FunX.ok (k := 0) (io := false) E.F_weight_up_to sc_weight_up_to (fun _ => []) ?_
  intro A outer s H E0 X F W hX hT hnds hnp hr hga tk hclo hpo
  subst hT
  subst hX
  exact (DSs.one (DS.ret (DE.callB (bi_sum rfl) (DA.cons (DE.lc (own := [("name", 2), ("weight", 3), ("bears", 4)]) rfl sc_weight_up_to.nd (DI.seq (DE.var 0)) (blkOk_by (N := N_weight_up_to) (sc := (defScope s_weight_up_to)) (own := [("name", 2), ("weight", 3), ("bears", 4)]) (by decide +kernel)) (by decide) (fun _ _ _ _ _ => (DG.tup (n := 3) rfl (DGs.cons (DG.name (i := 2) sc_weight_up_to.nd rfl (by first | exact .inl rfl | exact .inr rfl) (by rw [hnp]; decide)) (DGs.cons (DG.name (i := 3) sc_weight_up_to.nd rfl (by first | exact .inl rfl | exact .inr rfl) (by rw [hnp]; decide)) (DGs.cons (DG.name (i := 4) sc_weight_up_to.nd rfl (by first | exact .inl rfl | exact .inr rfl) (by rw [hnp]; decide)) DGs.nil))))) (fun _ _ _ _ _ => (DTs.one (DT.cmp (op_leD hr) (DE.bin op_addD (DE.var 3) (DE.var 4)) (DE.var 1) (nomark _)))) (fun _ _ _ _ _ => (DE.var 3))) DA.nil) E.b_sum)))
theorem ok_greatest_bound {P : Program} {w : World} {K : PySem.W.Frag} {mg : Str → Option Value} {base : Heap} {T : List NTab} (E : Tx K mg) : FnC P w K mg base T 1 E.f_greatest_bound E.fd_greatest_bound ["lot"] false R_greatest_bound := by
  refine FunX.ok (k := 0) (io := false) E.F_greatest_bound sc_greatest_bound (fun _ => []) ?_
  intro A outer s H E0 X F W hX hT hnds hnp hr hga tk hclo hpo
  subst hT
  subst hX
  exact (DSs.one (DS.ret (DE.callB (bi_max1 rfl) (DA.cons (DE.bin op_addD (DE.lst (DA.cons DE.int DA.nil)) (DE.lc (own := [("name", 1), ("weight", 2), ("bears", 3)]) rfl sc_greatest_bound.nd (DI.seq (DE.var 0)) (blkOk_by (N := N_greatest_bound) (sc := (defScope s_greatest_bound)) (own := [("name", 1), ("weight", 2), ("bears", 3)]) (by decide +kernel)) (by decide) (fun _ _ _ _ _ => (DG.tup (n := 3) rfl (DGs.cons (DG.name (i := 1) sc_greatest_bound.nd rfl (by first | exact .inl rfl | exact .inr rfl) (by rw [hnp]; decide)) (DGs.cons (DG.name (i := 2) sc_greatest_bound.nd rfl (by first | exact .inl rfl | exact .inr rfl) (by rw [hnp]; decide)) (DGs.cons (DG.name (i := 3) sc_greatest_bound.nd rfl (by first | exact .inl rfl | exact .inr rfl) (by rw [hnp]; decide)) DGs.nil))))) (fun _ _ _ _ _ => DTs.nil) (fun _ _ _ _ _ => (DE.bin op_addD (DE.var 2) (DE.var 3))))) DA.nil) E.b_max)))
theorem ok_check_lot {P : Program} {w : World} {K : PySem.W.Frag} {mg : Str → Option Value} {base : Heap} {T : List NTab} (E : Tx K mg) (TB_wrong_lot : TabB base mg E.tc_wrong_lot E.tp_wrong_lot) (hm_wrong_lot : (E.tp_wrong_lot, nm_wrong_lot) ∈ T) (hu_wrong_lot : ∀ p ∈ T, p.1 = E.tp_wrong_lot → p.2 = nm_wrong_lot) : FnC P w K mg base T 43 E.f_check_lot E.fd_check_lot ["value"] false R_check_lot := by
  refine FunX.ok (k := 42) (io := false) E.F_check_lot sc_check_lot (fun _ => []) ?_
  intro A outer s H E0 X F W hX hT hnds hnp hr hga tk hclo hpo
  subst hT
  subst hX
  exact (DSs.cons (DS.asg (i := 1) sc_check_lot.nd rfl (by first | exact .inl rfl | exact .inr rfl) (by rw [hnp]; decide) (DE.call (ok_wrong_lot (P := P) (w := w) (base := base) E TB_wrong_lot hm_wrong_lot hu_wrong_lot) (hr.mono (by decide)) hga tk NdC.no E.dq_wrong_lot E.g_wrong_lot E.F_wrong_lot.kp (bd_wrong_lot E) rfl (LenA.cons LenA.nil) (DA.cons (DE.var 0) DA.nil))) (DSs.one (DS.if (DT.cmp (op_neD' hr) (DE.var 1) (DE.lst DA.nil) (nomark _)) (DSs.one DS.bad) DSs.nil)))
theorem ok_check_crate {P : Program} {w : World} {K : PySem.W.Frag} {mg : Str → Option Value} {base : Heap} {T : List NTab} (E : Tx K mg) : FnC P w K mg base T 4 E.f_check_crate E.fd_check_crate ["value"] false R_check_crate := by
  refine FunX.ok (k := 3) (io := false) E.F_check_crate sc_check_crate (fun _ => []) ?_
  intro A outer s H E0 X F W hX hT hnds hnp hr hga tk hclo hpo
  subst hT
  subst hX
  exact (DSs.one (DS.if (DT.not (DT.tru (DE.call (ok_is_crate_form (P := P) (w := w) (base := base) E) (hr.mono (by decide)) hga tk NdC.no .nil E.g_is_crate_form E.F_is_crate_form.kp (b_is_crate_form E) rfl (LenA.cons LenA.nil) (DA.cons (DE.var 0) DA.nil)))) (DSs.one DS.bad) DSs.nil))
theorem ok_room_at {P : Program} {w : World} {K : PySem.W.Frag} {mg : Str → Option Value} {base : Heap} {T : List NTab} (E : Tx K mg) : FnC P w K mg base T 2 E.f_room_at E.fd_room_at ["lot", "number"] false R_room_at := by
  refine FunX.ok (k := 1) (io := false) E.F_room_at sc_room_at (fun _ => []) ?_
  intro A outer s H E0 X F W hX hT hnds hnp hr hga tk hclo hpo
  subst hT
  subst hX
  exact (DSs.cons (DS.setLc (i := 2) (own := [("name", 3), ("weight", 4), ("bears", 5)]) rfl sc_room_at.nd rfl rfl (by rw [hnp]; decide) (sw_true rfl rfl rfl rfl) (DI.seq (DE.var 0)) (blkOk_by (N := N_room_at) (sc := (defScope s_room_at)) (own := [("name", 3), ("weight", 4), ("bears", 5)]) (by decide +kernel)) (by decide) (fun _ _ _ _ _ => (DG.tup (n := 3) rfl (DGs.cons (DG.name (i := 3) sc_room_at.nd rfl (by first | exact .inl rfl | exact .inr rfl) (by rw [hnp]; decide)) (DGs.cons (DG.name (i := 4) sc_room_at.nd rfl (by first | exact .inl rfl | exact .inr rfl) (by rw [hnp]; decide)) (DGs.cons (DG.name (i := 5) sc_room_at.nd rfl (by first | exact .inl rfl | exact .inr rfl) (by rw [hnp]; decide)) DGs.nil))))) (fun _ _ _ _ _ => (DTs.one (DT.cmp (op_geD hr) (DE.bin op_addD (DE.var 4) (DE.var 5)) (DE.var 1) (nomark _)))) (fun _ _ _ _ _ => (DE.bin op_addD (DE.var 4) (DE.var 5)))) (DSs.one (DS.ret (DE.callB (bi_min1 rfl) (DA.cons (DE.lc (own := [("end", 6)]) rfl sc_room_at.nd (DI.seq (DE.bin op_addD (DE.lst (DA.cons (DE.var 1) DA.nil)) (DE.var 2))) (blkOk_by (N := N_room_at) (sc := (defScope s_room_at)) (own := [("end", 6)]) (by decide +kernel)) (by decide) (fun _ _ _ _ _ => (DG.name (i := 6) sc_room_at.nd rfl (by first | exact .inl rfl | exact .inr rfl) (by rw [hnp]; decide))) (fun _ _ _ _ _ => DTs.nil) (fun _ _ _ _ _ => (DE.bin op_subD (DE.var 6) (DE.call (ok_weight_up_to (P := P) (w := w) (base := base) E) (hr.mono (by decide)) hga takesF NdC.no .nil E.g_weight_up_to E.F_weight_up_to.kp (b_weight_up_to E) rfl (LenA.cons (LenA.cons LenA.nil)) (DA.cons (DE.var 0) (DA.cons (DE.var 6) DA.nil)))))) DA.nil) E.b_min))))
theorem ok_barred_of {P : Program} {w : World} {K : PySem.W.Frag} {mg : Str → Option Value} {base : Heap} {T : List NTab} (E : Tx K mg) : FnC P w K mg base T 3 E.f_barred_of E.fd_barred_of ["lot", "other"] false R_barred_of := by
  refine FunX.ok (k := 2) (io := false) E.F_barred_of sc_barred_of (fun _ => []) ?_
  intro A outer s H E0 X F W hX hT hnds hnp hr hga tk hclo hpo
  subst hT
  subst hX
  exact (DSs.cons (DS.for hpo rfl (DI.range1 (DE.bin op_addD (DE.callB (bi_max2 rfl) (DA.cons (DE.call (ok_greatest_bound (P := P) (w := w) (base := base) E) (hr.mono (by decide)) hga tk NdC.no .nil E.g_greatest_bound E.F_greatest_bound.kp (b_greatest_bound E) rfl (LenA.cons LenA.nil) (DA.cons (DE.var 0) DA.nil)) (DA.cons (DE.call (ok_greatest_bound (P := P) (w := w) (base := base) E) (hr.mono (by decide)) hga tk NdC.no .nil E.g_greatest_bound E.F_greatest_bound.kp (b_greatest_bound E) rfl (LenA.cons LenA.nil) (DA.cons (DE.var 1) DA.nil)) DA.nil)) E.b_max) DE.int) E.b_range) (DG.name (i := 2) sc_barred_of.nd rfl (by first | exact .inl rfl | exact .inr rfl) (by rw [hnp]; decide)) (DSs.cons (DS.asg (i := 3) sc_barred_of.nd rfl (by first | exact .inl rfl | exact .inr rfl) (by rw [hnp]; decide) (DE.call (ok_room_at (P := P) (w := w) (base := base) E) (hr.mono (by decide)) hga tk NdC.no .nil E.g_room_at E.F_room_at.kp (b_room_at E) rfl (LenA.cons (LenA.cons LenA.nil)) (DA.cons (DE.var 1) (DA.cons (DE.var 2) DA.nil)))) (DSs.one (DS.if (DT.cmp (op_ltD hr) (DE.call (ok_room_at (P := P) (w := w) (base := base) E) (hr.mono (by decide)) hga tk NdC.no .nil E.g_room_at E.F_room_at.kp (b_room_at E) rfl (LenA.cons (LenA.cons LenA.nil)) (DA.cons (DE.var 0) (DA.cons (DE.var 2) DA.nil))) (DE.var 3) (nomark _)) (DSs.one (DS.ret (DE.tup (DA.cons (DE.var 3) (DA.cons (DE.bin op_subD (DE.var 2) (DE.var 3)) DA.nil))))) DSs.nil)))) (DSs.one (DS.ret DE.none)))
theorem ok_does_for {P : Program} {w : World} {K : PySem.W.Frag} {mg : Str → Option Value} {base : Heap} {T : List NTab} (E : Tx K mg) : FnC P w K mg base T 1 E.f_does_for E.fd_does_for ["crate", "other"] false R_does_for := by
  refine FunX.ok (k := 0) (io := false) E.F_does_for sc_does_for (fun _ => []) ?_
  intro A outer s H E0 X F W hX hT hnds hnp hr hga tk hclo hpo
  subst hT
  subst hX
  exact (DSs.one (DS.ret (DE.and (DE.cmp (op_leD hr) (DE.ix (room_ix hr) (DE.var 0) DE.int (fun _ _ => rfl)) (DE.ix (room_ix hr) (DE.var 1) DE.int (fun _ _ => rfl)) (nomark _)) (DE.one (DE.cmp (op_geD hr) (DE.ix (room_ix hr) (DE.var 0) DE.int (fun _ _ => rfl)) (DE.ix (room_ix hr) (DE.var 1) DE.int (fun _ _ => rfl)) (nomark _))))))
theorem ok_stands_in {P : Program} {w : World} {K : PySem.W.Frag} {mg : Str → Option Value} {base : Heap} {T : List NTab} (E : Tx K mg) : FnC P w K mg base T 5 E.f_stands_in E.fd_stands_in ["crate", "crate2"] false R_stands_in := by
  refine FunX.ok (k := 4) (io := false) E.F_stands_in sc_stands_in (fun _ => []) ?_
  intro A outer s H E0 X F W hX hT hnds hnp hr hga tk hclo hpo
  subst hT
  subst hX
  exact (DSs.cons (DS.expr (DE.call (ok_check_crate (P := P) (w := w) (base := base) E) (hr.mono (by decide)) hga tk NdC.no .nil E.g_check_crate E.F_check_crate.kp (b_check_crate E) rfl (LenA.cons LenA.nil) (DA.cons (DE.var 0) DA.nil))) (DSs.cons (DS.expr (DE.call (ok_check_crate (P := P) (w := w) (base := base) E) (hr.mono (by decide)) hga tk NdC.no .nil E.g_check_crate E.F_check_crate.kp (b_check_crate E) rfl (LenA.cons LenA.nil) (DA.cons (DE.var 1) DA.nil))) (DSs.one (DS.ret (DE.call (ok_does_for (P := P) (w := w) (base := base) E) (hr.mono (by decide)) hga tk NdC.no .nil E.g_does_for E.F_does_for.kp (b_does_for E) rfl (LenA.cons (LenA.cons LenA.nil)) (DA.cons (DE.var 0) (DA.cons (DE.var 1) DA.nil)))))))
theorem ok_where_not {P : Program} {w : World} {K : PySem.W.Frag} {mg : Str → Option Value} {base : Heap} {T : List NTab} (E : Tx K mg) : FnC P w K mg base T 5 E.f_where_not E.fd_where_not ["crate", "crate2"] false R_where_not := by
  refine FunX.ok (k := 4) (io := false) E.F_where_not sc_where_not (fun _ => []) ?_
  intro A outer s H E0 X F W hX hT hnds hnp hr hga tk hclo hpo
  subst hT
  subst hX
  exact (DSs.cons (DS.expr (DE.call (ok_check_crate (P := P) (w := w) (base := base) E) (hr.mono (by decide)) hga tk NdC.no .nil E.g_check_crate E.F_check_crate.kp (b_check_crate E) rfl (LenA.cons LenA.nil) (DA.cons (DE.var 0) DA.nil))) (DSs.cons (DS.expr (DE.call (ok_check_crate (P := P) (w := w) (base := base) E) (hr.mono (by decide)) hga tk NdC.no .nil E.g_check_crate E.F_check_crate.kp (b_check_crate E) rfl (LenA.cons LenA.nil) (DA.cons (DE.var 1) DA.nil))) (DSs.one (DS.ret (DE.call (ok_barred_of (P := P) (w := w) (base := base) E) (hr.mono (by decide)) hga tk NdC.no .nil E.g_barred_of E.F_barred_of.kp (b_barred_of E) rfl (LenA.cons (LenA.cons LenA.nil)) (DA.cons (DE.tup (DA.cons (DE.var 0) DA.nil)) (DA.cons (DE.tup (DA.cons (DE.var 1) DA.nil)) DA.nil)))))))
theorem ok_standing_in {P : Program} {w : World} {K : PySem.W.Frag} {mg : Str → Option Value} {base : Heap} {T : List NTab} (E : Tx K mg) (TB_wrong_lot : TabB base mg E.tc_wrong_lot E.tp_wrong_lot) (hm_wrong_lot : (E.tp_wrong_lot, nm_wrong_lot) ∈ T) (hu_wrong_lot : ∀ p ∈ T, p.1 = E.tp_wrong_lot → p.2 = nm_wrong_lot) : FnC P w K mg base T 44 E.f_standing_in E.fd_standing_in ["lot", "crate"] false R_standing_in := by
  refine FunX.ok (k := 43) (io := false) E.F_standing_in sc_standing_in (fun _ => []) ?_
  intro A outer s H E0 X F W hX hT hnds hnp hr hga tk hclo hpo
  subst hT
  subst hX
  exact (DSs.cons (DS.expr (DE.call (ok_check_lot (P := P) (w := w) (base := base) E TB_wrong_lot hm_wrong_lot hu_wrong_lot) (hr.mono (by decide)) hga tk NdC.no .nil E.g_check_lot E.F_check_lot.kp (b_check_lot E) rfl (LenA.cons LenA.nil) (DA.cons (DE.var 0) DA.nil))) (DSs.cons (DS.expr (DE.call (ok_check_crate (P := P) (w := w) (base := base) E) (hr.mono (by decide)) hga tk NdC.no .nil E.g_check_crate E.F_check_crate.kp (b_check_crate E) rfl (LenA.cons LenA.nil) (DA.cons (DE.var 1) DA.nil))) (DSs.one (DS.ret (DE.callTy bi_tuple (DA.cons (DE.lc (own := [("each", 2)]) rfl sc_standing_in.nd (DI.seq (DE.var 0)) (blkOk_by (N := N_standing_in) (sc := (defScope s_standing_in)) (own := [("each", 2)]) (by decide +kernel)) (by decide) (fun _ _ _ _ _ => (DG.name (i := 2) sc_standing_in.nd rfl (by first | exact .inl rfl | exact .inr rfl) (by rw [hnp]; decide))) (fun _ _ _ _ _ => (DTs.one (DT.tru (DE.call (ok_does_for (P := P) (w := w) (base := base) E) (hr.mono (by decide)) hga takesF NdC.no .nil E.g_does_for E.F_does_for.kp (b_does_for E) rfl (LenA.cons (LenA.cons LenA.nil)) (DA.cons (DE.var 2) (DA.cons (DE.var 1) DA.nil)))))) (fun _ _ _ _ _ => (DE.ix (room_ix hr) (DE.var 2) DE.int (fun _ _ => rfl)))) DA.nil) E.b_tuple)))))
theorem ok__law_well {P : Program} {w : World} {K : PySem.W.Frag} {mg : Str → Option Value} {base : Heap} {T : List NTab} (E : Tx K mg) : FnC P w K mg base T 1 E.f__law_well E.fd__law_well ["script", "k"] false R__law_well := by
  refine FunX.ok (k := 0) (io := false) E.F__law_well sc__law_well (fun _ => []) ?_
  intro A outer s H E0 X F W hX hT hnds hnp hr hga tk hclo hpo
  subst hT
  subst hX
  exact (DSs.cons (DS.asg (i := 2) sc__law_well.nd rfl (by first | exact .inl rfl | exact .inr rfl) (by rw [hnp]; decide) (DE.ite (DT.cmp (op_ltD hr) (DE.var 1) (DE.callB bi_len (DA.cons (DE.var 0) DA.nil) E.b_len) (nomark _)) (DE.callTy bi_int (DA.cons (DE.ix (room_ix hr) (DE.var 0) (DE.var 1) (fun _ _ => rfl)) DA.nil) E.b_int) (DE.bin op_addD (DE.bin op_mulD DE.int (DE.var 1)) DE.int))) (DSs.cons (DS.asg (i := 3) sc__law_well.nd rfl (by first | exact .inl rfl | exact .inr rfl) (by rw [hnp]; decide) (DE.bin op_addD DE.int (DE.bin op_mulD DE.int (DE.var 1)))) (DSs.cons (DS.for hpo rfl (DI.seq (DE.bin op_addD (DE.sl (DE.var 0) DO.none (DO.some DE.int)) (DE.lst (DA.cons (DE.var 2) DA.nil)))) (DG.name (i := 4) sc__law_well.nd rfl (by first | exact .inl rfl | exact .inr rfl) (by rw [hnp]; decide)) (DSs.one (DS.asg (i := 3) sc__law_well.nd rfl (by first | exact .inl rfl | exact .inr rfl) (by rw [hnp]; decide) (DE.bin op_modD (DE.callTy bi_int (DA.cons (DE.bin op_addD (DE.bin op_addD (DE.bin op_mulD (DE.var 3) DE.int) (DE.bin op_modD (DE.callTy bi_int (DA.cons (DE.var 4) DA.nil) E.b_int) DE.int)) DE.int) DA.nil) E.b_int) DE.int)))) (DSs.one (DS.ret (DE.lst (DA.cons (DE.ite (DT.ofW (DW.or (DT.cmp (op_ltD hr) (DE.var 2) DE.int (nomark _)) (DW.or1 (DT.cmp (op_geD hr) (DE.var 2) (DE.bin op_powD DE.int DE.int) (nomark _))))) (DE.callB bi_abs (DA.cons (DE.var 2) DA.nil) E.b_abs) DE.int) (DA.cons (DE.var 3) (DA.cons DE.int DA.nil)))))))))
theorem ok__law_dip {P : Program} {w : World} {K : PySem.W.Frag} {mg : Str → Option Value} {base : Heap} {T : List NTab} (E : Tx K mg) : FnC P w K mg base T 1 E.f__law_dip E.fd__law_dip ["well", "many"] true R__law_dip := by
  refine FunX.ok (k := 0) (io := true) E.F__law_dip sc__law_dip (fun _ => []) ?_
  intro A outer s H E0 X F W hX hT hnds hnp hr hga tk hclo hpo
  subst hT
  subst hX
  exact (DSs.cons (DS.if (DT.cmp (op_gtD hr) (DE.ix (room_ix hr) (DE.var 0) DE.int (fun _ _ => rfl)) DE.int (nomark _)) (DSs.cons (DS.asgT (DE.callB bi_divmod (DA.cons (DE.ix (room_ix hr) (DE.var 0) DE.int (fun _ _ => rfl)) (DA.cons (DE.var 1) DA.nil)) E.b_divmod) (DG.tup (n := 2) rfl (DGs.cons (DG.sub (i := 0) (W := W) rfl DE.int) (DGs.cons (DG.name (i := 2) sc__law_dip.nd rfl (by first | exact .inl rfl | exact .inr rfl) (by rw [hnp]; decide)) DGs.nil)))) (DSs.one (DS.ret (DE.var 2)))) DSs.nil) (DSs.cons (DS.asgT (DE.bin op_addD (DE.ix (room_ix hr) (DE.var 0) DE.int (fun _ _ => rfl)) DE.int) (DG.sub (i := 0) (W := W) rfl DE.int)) (DSs.cons (DS.asgT (DE.bin op_modD (DE.callTy bi_int (DA.cons (DE.bin op_addD (DE.bin op_addD (DE.bin op_mulD (DE.ix (room_ix hr) (DE.var 0) DE.int (fun _ _ => rfl)) DE.int) (DE.bin op_mulD DE.int (DE.ix (room_ix hr) (DE.var 0) DE.int (fun _ _ => rfl)))) DE.int) DA.nil) E.b_int) DE.int) (DG.sub (i := 0) (W := W) rfl DE.int)) (DSs.one (DS.ret (DE.bin op_modD (DE.callTy bi_int (DA.cons (DE.bin op_fdivD (DE.ix (room_ix hr) (DE.var 0) DE.int (fun _ _ => rfl)) DE.int) DA.nil) E.b_int) (DE.var 1)))))))
theorem ok__law_one {P : Program} {w : World} {K : PySem.W.Frag} {mg : Str → Option Value} {base : Heap} {T : List NTab} (E : Tx K mg) : FnC P w K mg base T 2 E.f__law_one E.fd__law_one ["well", "some"] true R__law_one := by
  refine FunX.ok (k := 1) (io := true) E.F__law_one sc__law_one (fun _ => []) ?_
  intro A outer s H E0 X F W hX hT hnds hnp hr hga tk hclo hpo
  subst hT
  subst hX
  exact (DSs.one (DS.ret (DE.ix (room_ix hr) (DE.var 1) (DE.call (ok__law_dip (P := P) (w := w) (base := base) E) (hr.mono (by decide)) hga tk NdC.no .nil E.g__law_dip E.F__law_dip.kp (b__law_dip E) rfl (LenA.cons (LenA.cons LenA.nil)) (DA.cons (DE.var 0) (DA.cons (DE.callB bi_len (DA.cons (DE.var 1) DA.nil) E.b_len) DA.nil))) (fun _ _ => rfl))))
theorem ok__law_turns {P : Program} {w : World} {K : PySem.W.Frag} {mg : Str → Option Value} {base : Heap} {T : List NTab} (E : Tx K mg) : FnC P w K mg base T 1 E.f__law_turns E.fd__law_turns ["script"] false R__law_turns := by
  refine FunX.ok (k := 0) (io := false) E.F__law_turns sc__law_turns (fun _ => []) ?_
  intro A outer s H E0 X F W hX hT hnds hnp hr hga tk hclo hpo
  subst hT
  subst hX
  exact (DSs.one (DS.ret (DE.listRg (DE.callB (bi_max2 rfl) (DA.cons DE.int (DA.cons (DE.callB (bi_min2 rfl) (DA.cons (DE.callB bi_len (DA.cons (DE.var 0) DA.nil) E.b_len) (DA.cons DE.int DA.nil)) E.b_min) DA.nil)) E.b_max) E.b_list E.b_range)))
theorem ok__law_is_number {P : Program} {w : World} {K : PySem.W.Frag} {mg : Str → Option Value} {base : Heap} {T : List NTab} (E : Tx K mg) : FnC P w K mg base T 1 E.f__law_is_number E.fd__law_is_number ["value", "low", "high"] false R__law_is_number := by
  refine FunX.ok (k := 0) (io := false) E.F__law_is_number sc__law_is_number (fun _ => []) ?_
  intro A outer s H E0 X F W hX hT hnds hnp hr hga tk hclo hpo
  subst hT
  subst hX
  exact (DSs.one (DS.ret (DE.and (DE.isi (DE.var 0) E.b_isinstance E.b_int) (DE.and (DE.not (DE.isi (DE.var 0) E.b_isinstance E.b_bool)) (DE.one (DE.chain (op_leD hr) (op_leD hr) (DE.var 1) (DE.var 0) (DE.var 2)))))))
theorem ok__law_words {P : Program} {w : World} {K : PySem.W.Frag} {mg : Str → Option Value} {base : Heap} {T : List NTab} (E : Tx K mg) : FnC P w K mg base T 3 E.f__law_words E.fd__law_words ["well", "many"] true R__law_words := by
  refine FunX.ok (k := 2) (io := true) E.F__law_words sc__law_words (fun _ => []) ?_
  intro A outer s H E0 X F W hX hT hnds hnp hr hga tk hclo hpo
  subst hT
  subst hX
  exact (DSs.cons (DS.parN (i := 2) (j := 3) rfl sc__law_words.nd rfl rfl (by decide) (by first | exact .inl rfl | exact .inr rfl) (by first | exact .inl rfl | exact .inr rfl) (by rw [hnp]; decide) (by rw [hnp]; decide) (DA.cons DE.str (DA.cons (DE.lst DA.nil) DA.nil))) (DSs.cons (DS.asg (i := 4) sc__law_words.nd rfl (by first | exact .inl rfl | exact .inr rfl) (by rw [hnp]; decide) (DE.lst (DA.cons DE.str (DA.cons DE.str (DA.cons DE.str (DA.cons DE.str (DA.cons DE.str (DA.cons DE.str (DA.cons DE.str (DA.cons DE.str (DA.cons DE.str (DA.cons DE.str (DA.cons DE.str (DA.cons DE.str (DA.cons DE.str DA.nil))))))))))))))) (DSs.cons (DS.asg (i := 4) sc__law_words.nd rfl (by first | exact .inl rfl | exact .inr rfl) (by rw [hnp]; decide) (DE.bin op_addD (DE.var 4) (DE.lst (DA.cons DE.str (DA.cons DE.str (DA.cons DE.str (DA.cons DE.str (DA.cons DE.str (DA.cons DE.str (DA.cons DE.str (DA.cons DE.str (DA.cons DE.str (DA.cons DE.str (DA.cons DE.str (DA.cons DE.str (DA.cons DE.str DA.nil)))))))))))))))) (DSs.cons (DS.asg (i := 4) sc__law_words.nd rfl (by first | exact .inl rfl | exact .inr rfl) (by rw [hnp]; decide) (DE.bin op_addD (DE.var 4) (DE.lst (DA.cons DE.str (DA.cons DE.str (DA.cons DE.str (DA.cons DE.str (DA.cons DE.str (DA.cons DE.str (DA.cons DE.str (DA.cons DE.str (DA.cons DE.str (DA.cons DE.str (DA.cons DE.str (DA.cons DE.str DA.nil))))))))))))))) (DSs.cons (DS.asg (i := 4) sc__law_words.nd rfl (by first | exact .inl rfl | exact .inr rfl) (by rw [hnp]; decide) (DE.bin op_addD (DE.var 4) (DE.lst (DA.cons DE.str (DA.cons DE.str (DA.cons DE.str DA.nil)))))) (DSs.cons (DS.for hpo rfl (DI.range1 (DE.var 1) E.b_range) (DG.name (i := 5) sc__law_words.nd rfl (by first | exact .inl rfl | exact .inr rfl) (by rw [hnp]; decide)) (DSs.cons (DS.asg (i := 6) sc__law_words.nd rfl (by first | exact .inl rfl | exact .inr rfl) (by rw [hnp]; decide) (DE.met PySem.F.plainAttrs_str PySem.F.slot_str_join PySem.F.type_str_join me_join DE.str (DA.cons (DE.lc (own := [("turn", 7)]) rfl sc__law_words.nd (DI.range1 (DE.bin op_addD DE.int (DE.call (ok__law_dip (P := P) (w := w) (base := base) E) (hr.mono (by decide)) hga tk NdC.no .nil E.g__law_dip E.F__law_dip.kp (b__law_dip E) rfl (LenA.cons (LenA.cons LenA.nil)) (DA.cons (DE.var 0) (DA.cons (DE.call (ok__law_one (P := P) (w := w) (base := base) E) (hr.mono (by decide)) hga tk NdC.no .nil E.g__law_one E.F__law_one.kp (b__law_one E) rfl (LenA.cons (LenA.cons LenA.nil)) (DA.cons (DE.var 0) (DA.cons (DE.lst (DA.cons DE.int (DA.cons DE.int (DA.cons DE.int DA.nil)))) DA.nil))) DA.nil)))) E.b_range) (blkOk_by (N := N__law_words) (sc := (defScope s__law_words)) (own := [("turn", 7)]) (by decide +kernel)) (by decide) (fun _ _ _ _ _ => (DG.name (i := 7) sc__law_words.nd rfl (by first | exact .inl rfl | exact .inr rfl) (by rw [hnp]; decide))) (fun _ _ _ _ _ => DTs.nil) (fun _ _ _ _ _ => (DE.call (ok__law_one (P := P) (w := w) (base := base) E) (hr.mono (by decide)) hga takesF NdC.no .nil E.g__law_one E.F__law_one.kp (b__law_one E) rfl (LenA.cons (LenA.cons LenA.nil)) (DA.cons (DE.var 0) (DA.cons (DE.var 2) DA.nil))))) DA.nil))) (DSs.cons (DS.asg (i := 8) sc__law_words.nd rfl (by first | exact .inl rfl | exact .inr rfl) (by rw [hnp]; decide) (DE.bin op_addD (DE.bin op_addD (DE.lst (DA.cons (DE.var 6) DA.nil)) (DE.lc (own := [("sign", 9)]) rfl sc__law_words.nd (DI.seq (DE.var 2)) (blkOk_by (N := N__law_words) (sc := (defScope s__law_words)) (own := [("sign", 9)]) (by decide +kernel)) (by decide) (fun _ _ _ _ _ => (DG.name (i := 9) sc__law_words.nd rfl (by first | exact .inl rfl | exact .inr rfl) (by rw [hnp]; decide))) (fun _ _ _ _ _ => DTs.nil) (fun _ _ _ _ _ => (DE.bin op_addD (DE.bin op_addD (DE.sl (DE.var 6) DO.none (DO.some DE.int)) (DE.var 9)) DE.str)))) (DE.lc (own := [("sign", 9)]) rfl sc__law_words.nd (DI.seq (DE.var 2)) (blkOk_by (N := N__law_words) (sc := (defScope s__law_words)) (own := [("sign", 9)]) (by decide +kernel)) (by decide) (fun _ _ _ _ _ => (DG.name (i := 9) sc__law_words.nd rfl (by first | exact .inl rfl | exact .inr rfl) (by rw [hnp]; decide))) (fun _ _ _ _ _ => DTs.nil) (fun _ _ _ _ _ => (DE.bin op_addD (DE.bin op_addD (DE.sl (DE.var 6) DO.none (DO.some DE.int)) (DE.var 9)) DE.str))))) (DSs.one (DS.expr (DE.mut (i := 3) PySem.F.plainAttrs_list PySem.F.slot_list_append PySem.F.type_list_append mu_append rfl (DA.cons (DE.ix (room_ix hr) (DE.lc (own := [("each", 10)]) rfl sc__law_words.nd (DI.seq (DE.var 8)) (blkOk_by (N := N__law_words) (sc := (defScope s__law_words)) (own := [("each", 10)]) (by decide +kernel)) (by decide) (fun _ _ _ _ _ => (DG.name (i := 10) sc__law_words.nd rfl (by first | exact .inl rfl | exact .inr rfl) (by rw [hnp]; decide))) (fun _ _ _ _ _ => (DTs.one (DT.cmp (op_notInD' hr) (DE.var 10) (DE.bin op_addD (DE.var 3) (DE.var 4)) rfl))) (fun _ _ _ _ _ => (DE.var 10))) DE.int (fun _ _ => rfl)) DA.nil))))))) (DSs.one (DS.ret (DE.callTy bi_tuple (DA.cons (DE.callB (bi_sorted hr) (DA.cons (DE.var 3) DA.nil) E.b_sorted) DA.nil) E.b_tuple)))))))))
theorem ok__law_lot {P : Program} {w : World} {K : PySem.W.Frag} {mg : Str → Option Value} {base : Heap} {T : List NTab} (E : Tx K mg) : FnC P w K mg base T 4 E.f__law_lot E.fd__law_lot ["well", "most"] true R__law_lot := by
  refine FunX.ok (k := 3) (io := true) E.F__law_lot sc__law_lot (fun _ => []) ?_
  intro A outer s H E0 X F W hX hT hnds hnp hr hga tk hclo hpo
  subst hT
  subst hX
  exact (DSs.cons (DS.parN (i := 2) (j := 3) rfl sc__law_lot.nd rfl rfl (by decide) (by first | exact .inl rfl | exact .inr rfl) (by first | exact .inl rfl | exact .inr rfl) (by rw [hnp]; decide) (by rw [hnp]; decide) (DA.cons (DE.call (ok__law_one (P := P) (w := w) (base := base) E) (hr.mono (by decide)) hga tk NdC.no .nil E.g__law_one E.F__law_one.kp (b__law_one E) rfl (LenA.cons (LenA.cons LenA.nil)) (DA.cons (DE.var 0) (DA.cons (DE.lst (DA.cons DE.int (DA.cons DE.int (DA.cons DE.int (DA.cons DE.int DA.nil))))) DA.nil))) (DA.cons (DE.call (ok__law_one (P := P) (w := w) (base := base) E) (hr.mono (by decide)) hga tk NdC.no .nil E.g__law_one E.F__law_one.kp (b__law_one E) rfl (LenA.cons (LenA.cons LenA.nil)) (DA.cons (DE.var 0) (DA.cons (DE.lst (DA.cons DE.int (DA.cons DE.int (DA.cons DE.int (DA.cons DE.int DA.nil))))) DA.nil))) DA.nil))) (DSs.cons (DS.asg (i := 4) sc__law_lot.nd rfl (by first | exact .inl rfl | exact .inr rfl) (by rw [hnp]; decide) (DE.call (ok__law_words (P := P) (w := w) (base := base) E) (hr.mono (by decide)) hga tk NdC.no .nil E.g__law_words E.F__law_words.kp (b__law_words E) rfl (LenA.cons (LenA.cons LenA.nil)) (DA.cons (DE.var 0) (DA.cons (DE.call (ok__law_dip (P := P) (w := w) (base := base) E) (hr.mono (by decide)) hga tk NdC.no .nil E.g__law_dip E.F__law_dip.kp (b__law_dip E) rfl (LenA.cons (LenA.cons LenA.nil)) (DA.cons (DE.var 0) (DA.cons (DE.bin op_addD (DE.var 1) DE.int) DA.nil))) DA.nil)))) (DSs.one (DS.ret (DE.callTy bi_tuple (DA.cons (DE.lc (own := [("name", 5)]) rfl sc__law_lot.nd (DI.seq (DE.var 4)) (blkOk_by (N := N__law_lot) (sc := (defScope s__law_lot)) (own := [("name", 5)]) (by decide +kernel)) (by decide) (fun _ _ _ _ _ => (DG.name (i := 5) sc__law_lot.nd rfl (by first | exact .inl rfl | exact .inr rfl) (by rw [hnp]; decide))) (fun _ _ _ _ _ => DTs.nil) (fun _ _ _ _ _ => (DE.tup (DA.cons (DE.var 5) (DA.cons (DE.bin op_addD DE.int (DE.call (ok__law_dip (P := P) (w := w) (base := base) E) (hr.mono (by decide)) hga takesF NdC.no .nil E.g__law_dip E.F__law_dip.kp (b__law_dip E) rfl (LenA.cons (LenA.cons LenA.nil)) (DA.cons (DE.var 0) (DA.cons (DE.var 2) DA.nil)))) (DA.cons (DE.call (ok__law_dip (P := P) (w := w) (base := base) E) (hr.mono (by decide)) hga takesF NdC.no .nil E.g__law_dip E.F__law_dip.kp (b__law_dip E) rfl (LenA.cons (LenA.cons LenA.nil)) (DA.cons (DE.var 0) (DA.cons (DE.var 3) DA.nil))) DA.nil)))))) DA.nil) E.b_tuple)))))
theorem ok__law_to {P : Program} {w : World} {K : PySem.W.Frag} {mg : Str → Option Value} {base : Heap} {T : List NTab} (E : Tx K mg) : FnC P w K mg base T 1 E.f__law_to E.fd__law_to ["lot", "number"] false R__law_to := by
  refine FunX.ok (k := 0) (io := false) E.F__law_to sc__law_to (fun _ => []) ?_
  intro A outer s H E0 X F W hX hT hnds hnp hr hga tk hclo hpo
  subst hT
  subst hX
  exact (DSs.one (DS.ret (DE.callB (bi_sum rfl) (DA.cons (DE.lc (own := [("name", 2), ("heavy", 3), ("firm", 4)]) rfl sc__law_to.nd (DI.seq (DE.var 0)) (blkOk_by (N := N__law_to) (sc := (defScope s__law_to)) (own := [("name", 2), ("heavy", 3), ("firm", 4)]) (by decide +kernel)) (by decide) (fun _ _ _ _ _ => (DG.tup (n := 3) rfl (DGs.cons (DG.name (i := 2) sc__law_to.nd rfl (by first | exact .inl rfl | exact .inr rfl) (by rw [hnp]; decide)) (DGs.cons (DG.name (i := 3) sc__law_to.nd rfl (by first | exact .inl rfl | exact .inr rfl) (by rw [hnp]; decide)) (DGs.cons (DG.name (i := 4) sc__law_to.nd rfl (by first | exact .inl rfl | exact .inr rfl) (by rw [hnp]; decide)) DGs.nil))))) (fun _ _ _ _ _ => (DTs.one (DT.cmp (op_leD hr) (DE.bin op_addD (DE.var 3) (DE.var 4)) (DE.var 1) (nomark _)))) (fun _ _ _ _ _ => (DE.var 3))) DA.nil) E.b_sum)))
theorem ok__law_can {P : Program} {w : World} {K : PySem.W.Frag} {mg : Str → Option Value} {base : Heap} {T : List NTab} (E : Tx K mg) : FnC P w K mg base T 2 E.f__law_can E.fd__law_can ["lot"] false R__law_can := by
  refine FunX.ok (k := 1) (io := false) E.F__law_can sc__law_can (fun _ => []) ?_
  intro A outer s H E0 X F W hX hT hnds hnp hr hga tk hclo hpo
  subst hT
  subst hX
  exact (DSs.one (DS.ret (DE.cmp (op_eqD' hr) (DE.lc (own := [("name", 1), ("heavy", 2), ("firm", 3)]) rfl sc__law_can.nd (DI.seq (DE.var 0)) (blkOk_by (N := N__law_can) (sc := (defScope s__law_can)) (own := [("name", 1), ("heavy", 2), ("firm", 3)]) (by decide +kernel)) (by decide) (fun _ _ _ _ _ => (DG.tup (n := 3) rfl (DGs.cons (DG.name (i := 1) sc__law_can.nd rfl (by first | exact .inl rfl | exact .inr rfl) (by rw [hnp]; decide)) (DGs.cons (DG.name (i := 2) sc__law_can.nd rfl (by first | exact .inl rfl | exact .inr rfl) (by rw [hnp]; decide)) (DGs.cons (DG.name (i := 3) sc__law_can.nd rfl (by first | exact .inl rfl | exact .inr rfl) (by rw [hnp]; decide)) DGs.nil))))) (fun _ _ _ _ _ => (DTs.one (DT.cmp (op_gtD hr) (DE.call (ok__law_to (P := P) (w := w) (base := base) E) (hr.mono (by decide)) hga takesF NdC.no .nil E.g__law_to E.F__law_to.kp (b__law_to E) rfl (LenA.cons (LenA.cons LenA.nil)) (DA.cons (DE.var 0) (DA.cons (DE.bin op_addD (DE.var 2) (DE.var 3)) DA.nil))) (DE.bin op_addD (DE.var 2) (DE.var 3)) (nomark _)))) (fun _ _ _ _ _ => DE.int)) (DE.lst DA.nil) (nomark _))))
theorem ok__law_crate {P : Program} {w : World} {K : PySem.W.Frag} {mg : Str → Option Value} {base : Heap} {T : List NTab} (E : Tx K mg) : FnC P w K mg base T 2 E.f__law_crate E.fd__law_crate ["well", "name"] true R__law_crate := by
  refine FunX.ok (k := 1) (io := true) E.F__law_crate sc__law_crate (fun _ => []) ?_
  intro A outer s H E0 X F W hX hT hnds hnp hr hga tk hclo hpo
  subst hT
  subst hX
  exact (DSs.one (DS.ret (DE.tup (DA.cons (DE.var 1) (DA.cons (DE.bin op_addD DE.int (DE.call (ok__law_dip (P := P) (w := w) (base := base) E) (hr.mono (by decide)) hga tk NdC.no .nil E.g__law_dip E.F__law_dip.kp (b__law_dip E) rfl (LenA.cons (LenA.cons LenA.nil)) (DA.cons (DE.var 0) (DA.cons DE.int DA.nil)))) (DA.cons (DE.call (ok__law_dip (P := P) (w := w) (base := base) E) (hr.mono (by decide)) hga tk NdC.no .nil E.g__law_dip E.F__law_dip.kp (b__law_dip E) rfl (LenA.cons (LenA.cons LenA.nil)) (DA.cons (DE.var 0) (DA.cons DE.int DA.nil))) DA.nil))))))
theorem ok__law_right {P : Program} {w : World} {K : PySem.W.Frag} {mg : Str → Option Value} {base : Heap} {T : List NTab} (E : Tx K mg) (TB_wrong_lot : TabB base mg E.tc_wrong_lot E.tp_wrong_lot) (hm_wrong_lot : (E.tp_wrong_lot, nm_wrong_lot) ∈ T) (hu_wrong_lot : ∀ p ∈ T, p.1 = E.tp_wrong_lot → p.2 = nm_wrong_lot) : FnC P w K mg base T 45 E.f__law_right E.fd__law_right ["well"] true R__law_right := by
  refine FunX.ok (k := 44) (io := true) E.F__law_right sc__law_right (fun _ => []) ?_
  intro A outer s H E0 X F W hX hT hnds hnp hr hga tk hclo hpo
  subst hT
  subst hX
  exact (DSs.cons (DS.for hpo rfl (DI.range1 DE.int E.b_range) (DG.name (i := 1) sc__law_right.nd rfl (by first | exact .inl rfl | exact .inr rfl) (by rw [hnp]; decide)) (DSs.cons (DS.parN (i := 2) (j := 3) rfl sc__law_right.nd rfl rfl (by decide) (by first | exact .inl rfl | exact .inr rfl) (by first | exact .inl rfl | exact .inr rfl) (by rw [hnp]; decide) (by rw [hnp]; decide) (DA.cons (DE.call (ok__law_crate (P := P) (w := w) (base := base) E) (hr.mono (by decide)) hga tk NdC.no .nil E.g__law_crate E.F__law_crate.kp (b__law_crate E) rfl (LenA.cons (LenA.cons LenA.nil)) (DA.cons (DE.var 0) (DA.cons DE.str DA.nil))) (DA.cons (DE.call (ok__law_crate (P := P) (w := w) (base := base) E) (hr.mono (by decide)) hga tk NdC.no .nil E.g__law_crate E.F__law_crate.kp (b__law_crate E) rfl (LenA.cons (LenA.cons LenA.nil)) (DA.cons (DE.var 0) (DA.cons (DE.call (ok__law_one (P := P) (w := w) (base := base) E) (hr.mono (by decide)) hga tk NdC.no .nil E.g__law_one E.F__law_one.kp (b__law_one E) rfl (LenA.cons (LenA.cons LenA.nil)) (DA.cons (DE.var 0) (DA.cons (DE.lst (DA.cons DE.str (DA.cons DE.str DA.nil))) DA.nil))) DA.nil))) DA.nil))) (DSs.cons (DS.if (DT.cmp (op_eqD' hr) (DE.call (ok__law_dip (P := P) (w := w) (base := base) E) (hr.mono (by decide)) hga tk NdC.no .nil E.g__law_dip E.F__law_dip.kp (b__law_dip E) rfl (LenA.cons (LenA.cons LenA.nil)) (DA.cons (DE.var 0) (DA.cons DE.int DA.nil))) DE.int (nomark _)) (DSs.one (DS.asg (i := 3) sc__law_right.nd rfl (by first | exact .inl rfl | exact .inr rfl) (by rw [hnp]; decide) (DE.tup (DA.cons DE.str (DA.cons (DE.bin op_addD (DE.ix (room_ix hr) (DE.var 2) DE.int (fun _ _ => rfl)) (DE.call (ok__law_dip (P := P) (w := w) (base := base) E) (hr.mono (by decide)) hga tk NdC.no .nil E.g__law_dip E.F__law_dip.kp (b__law_dip E) rfl (LenA.cons (LenA.cons LenA.nil)) (DA.cons (DE.var 0) (DA.cons DE.int DA.nil)))) (DA.cons (DE.callB (bi_max2 rfl) (DA.cons DE.int (DA.cons (DE.bin op_subD (DE.ix (room_ix hr) (DE.var 2) DE.int (fun _ _ => rfl)) (DE.call (ok__law_dip (P := P) (w := w) (base := base) E) (hr.mono (by decide)) hga tk NdC.no .nil E.g__law_dip E.F__law_dip.kp (b__law_dip E) rfl (LenA.cons (LenA.cons LenA.nil)) (DA.cons (DE.var 0) (DA.cons DE.int DA.nil)))) DA.nil)) E.b_max) DA.nil)))))) DSs.nil) (DSs.cons (DS.asg (i := 4) sc__law_right.nd rfl (by first | exact .inl rfl | exact .inr rfl) (by rw [hnp]; decide) (DE.and (DE.cmp (op_leD hr) (DE.ix (room_ix hr) (DE.var 2) DE.int (fun _ _ => rfl)) (DE.ix (room_ix hr) (DE.var 3) DE.int (fun _ _ => rfl)) (nomark _)) (DE.one (DE.cmp (op_geD hr) (DE.ix (room_ix hr) (DE.var 2) DE.int (fun _ _ => rfl)) (DE.ix (room_ix hr) (DE.var 3) DE.int (fun _ _ => rfl)) (nomark _))))) (DSs.cons (DS.if (DT.cmp (op_neD' hr) (DE.callB (bi_repr hr hga) (DA.cons (DE.lst (DA.cons (DE.call (ok_stands_in (P := P) (w := w) (base := base) E) (hr.mono (by decide)) hga tk NdC.no .nil E.g_stands_in E.F_stands_in.kp (b_stands_in E) rfl (LenA.cons (LenA.cons LenA.nil)) (DA.cons (DE.var 2) (DA.cons (DE.var 3) DA.nil))) (DA.cons (DE.callK (ks := ["crate2", "crate"]) (is := [1, 0]) (ok_stands_in (P := P) (w := w) (base := base) E) (hr.mono (by decide)) hga tk NdC.no E.g_stands_in E.F_stands_in.kp (bk_stands_in_crate2_crate E) (by decide) rfl (by decide) (LenA.cons (LenA.cons LenA.nil)) (DK.cons (DE.var 3) (DK.cons (DE.var 2) DK.nil))) DA.nil))) DA.nil) E.b_repr) (DE.callB (bi_repr hr hga) (DA.cons (DE.lst (DA.cons (DE.var 4) (DA.cons (DE.var 4) DA.nil))) DA.nil) E.b_repr) (nomark _)) (DSs.one (DS.ret DE.bool)) DSs.nil) (DSs.cons (DS.asg (i := 5) sc__law_right.nd rfl (by first | exact .inl rfl | exact .inr rfl) (by rw [hnp]; decide) DE.bool) (DSs.cons (DS.for hpo rfl (DI.range2 DE.int DE.int E.b_range) (DG.name (i := 6) sc__law_right.nd rfl (by first | exact .inl rfl | exact .inr rfl) (by rw [hnp]; decide)) (DSs.one (DS.for hpo rfl (DI.range1 DE.int E.b_range) (DG.name (i := 7) sc__law_right.nd rfl (by first | exact .inl rfl | exact .inr rfl) (by rw [hnp]; decide)) (DSs.cons (DS.asg (i := 8) sc__law_right.nd rfl (by first | exact .inl rfl | exact .inr rfl) (by rw [hnp]; decide) (DE.tup (DA.cons DE.str (DA.cons (DE.var 6) (DA.cons (DE.var 7) DA.nil))))) (DSs.one (DS.asg (i := 5) sc__law_right.nd rfl (by first | exact .inl rfl | exact .inr rfl) (by rw [hnp]; decide) (DE.and (DE.var 5) (DE.one (DE.or (DE.not (DE.call (ok__law_can (P := P) (w := w) (base := base) E) (hr.mono (by decide)) hga tk NdC.no .nil E.g__law_can E.F__law_can.kp (b__law_can E) rfl (LenA.cons LenA.nil) (DA.cons (DE.tup (DA.cons (DE.var 3) (DA.cons (DE.var 8) DA.nil))) DA.nil))) (DE.one (DE.call (ok__law_can (P := P) (w := w) (base := base) E) (hr.mono (by decide)) hga tk NdC.no .nil E.g__law_can E.F__law_can.kp (b__law_can E) rfl (LenA.cons LenA.nil) (DA.cons (DE.tup (DA.cons (DE.var 2) (DA.cons (DE.var 8) DA.nil))) DA.nil)))))))))))) (DSs.cons (DS.if (DT.cmp (op_neD' hr) (DE.var 5) (DE.var 4) (nomark _)) (DSs.one (DS.ret DE.bool)) DSs.nil) (DSs.cons (DS.for hpo rfl (DI.seq (DE.lst (DA.cons (DE.call (ok_where_not (P := P) (w := w) (base := base) E) (hr.mono (by decide)) hga tk NdC.no .nil E.g_where_not E.F_where_not.kp (b_where_not E) rfl (LenA.cons (LenA.cons LenA.nil)) (DA.cons (DE.var 2) (DA.cons (DE.var 3) DA.nil))) (DA.cons (DE.callK (ks := ["crate2", "crate"]) (is := [1, 0]) (ok_where_not (P := P) (w := w) (base := base) E) (hr.mono (by decide)) hga tk NdC.no E.g_where_not E.F_where_not.kp (bk_where_not_crate2_crate E) (by decide) rfl (by decide) (LenA.cons (LenA.cons LenA.nil)) (DK.cons (DE.var 3) (DK.cons (DE.var 2) DK.nil))) DA.nil)))) (DG.name (i := 9) sc__law_right.nd rfl (by first | exact .inl rfl | exact .inr rfl) (by rw [hnp]; decide)) (DSs.cons (DS.if (DT.cmp (op_neD' hr) (DE.cmp op_isD (DE.var 9) DE.none (nomark _)) (DE.var 4) (nomark _)) (DSs.one (DS.ret DE.bool)) DSs.nil) (DSs.one (DS.if (DT.cmp op_isNotD (DE.var 9) DE.none (nomark _)) (DSs.cons (DS.if (DT.ofW (DW.or (DT.not (DT.tru (DE.isi (DE.var 9) E.b_isinstance E.b_tuple))) (DW.or (DT.cmp (op_neD' hr) (DE.callB bi_len (DA.cons (DE.var 9) DA.nil) E.b_len) DE.int (nomark _)) (DW.or1 (DT.not (DT.tru (DE.call (ok__law_is_number (P := P) (w := w) (base := base) E) (hr.mono (by decide)) hga tk NdC.no .nil E.g__law_is_number E.F__law_is_number.kp (b__law_is_number E) rfl (LenA.cons (LenA.cons (LenA.cons LenA.nil))) (DA.cons (DE.ix (room_ix hr) (DE.var 9) DE.int (fun _ _ => rfl)) (DA.cons DE.int (DA.cons (DE.bin op_powD DE.int DE.int) DA.nil)))))))))) (DSs.one (DS.ret DE.bool)) DSs.nil) (DSs.cons (DS.asg (i := 8) sc__law_right.nd rfl (by first | exact .inl rfl | exact .inr rfl) (by rw [hnp]; decide) (DE.tup (DA.cons DE.str (DA.cons (DE.ix (room_ix hr) (DE.var 9) DE.int (fun _ _ => rfl)) (DA.cons (DE.ix (room_ix hr) (DE.var 9) DE.int (fun _ _ => rfl)) DA.nil))))) (DSs.one (DS.if (DT.ofW (DW.or (DT.not (DT.tru (DE.call (ok__law_is_number (P := P) (w := w) (base := base) E) (hr.mono (by decide)) hga tk NdC.no .nil E.g__law_is_number E.F__law_is_number.kp (b__law_is_number E) rfl (LenA.cons (LenA.cons (LenA.cons LenA.nil))) (DA.cons (DE.ix (room_ix hr) (DE.var 9) DE.int (fun _ _ => rfl)) (DA.cons DE.int (DA.cons (DE.bin op_powD DE.int DE.int) DA.nil)))))) (DW.or (DT.not (DT.tru (DE.call (ok__law_can (P := P) (w := w) (base := base) E) (hr.mono (by decide)) hga tk NdC.no .nil E.g__law_can E.F__law_can.kp (b__law_can E) rfl (LenA.cons LenA.nil) (DA.cons (DE.tup (DA.cons (DE.var 3) (DA.cons (DE.var 8) DA.nil))) DA.nil)))) (DW.or1 (DT.tru (DE.call (ok__law_can (P := P) (w := w) (base := base) E) (hr.mono (by decide)) hga tk NdC.no .nil E.g__law_can E.F__law_can.kp (b__law_can E) rfl (LenA.cons LenA.nil) (DA.cons (DE.tup (DA.cons (DE.var 2) (DA.cons (DE.var 8) DA.nil))) DA.nil))))))) (DSs.one (DS.ret DE.bool)) DSs.nil)))) DSs.nil)))) (DSs.cons (DS.asg (i := 10) sc__law_right.nd rfl (by first | exact .inl rfl | exact .inr rfl) (by rw [hnp]; decide) (DE.call (ok__law_lot (P := P) (w := w) (base := base) E) (hr.mono (by decide)) hga tk NdC.no .nil E.g__law_lot E.F__law_lot.kp (b__law_lot E) rfl (LenA.cons (LenA.cons LenA.nil)) (DA.cons (DE.var 0) (DA.cons DE.int DA.nil)))) (DSs.cons (DS.asg (i := 11) sc__law_right.nd rfl (by first | exact .inl rfl | exact .inr rfl) (by rw [hnp]; decide) (DE.callTy bi_tuple (DA.cons (DE.lc (own := [("crate", 12)]) rfl sc__law_right.nd (DI.seq (DE.var 10)) (blkOk_by (N := N__law_right) (sc := (defScope s__law_right)) (own := [("crate", 12)]) (by decide +kernel)) (by decide) (fun _ _ _ _ _ => (DG.name (i := 12) sc__law_right.nd rfl (by first | exact .inl rfl | exact .inr rfl) (by rw [hnp]; decide))) (fun _ _ _ _ _ => (DTs.one (DT.ofW (DW.and (DT.cmp (op_leD hr) (DE.ix (room_ix hr) (DE.var 12) DE.int (fun _ _ => rfl)) (DE.ix (room_ix hr) (DE.var 3) DE.int (fun _ _ => rfl)) (nomark _)) (DW.and1 (DT.cmp (op_geD hr) (DE.ix (room_ix hr) (DE.var 12) DE.int (fun _ _ => rfl)) (DE.ix (room_ix hr) (DE.var 3) DE.int (fun _ _ => rfl)) (nomark _))))))) (fun _ _ _ _ _ => (DE.ix (room_ix hr) (DE.var 12) DE.int (fun _ _ => rfl)))) DA.nil) E.b_tuple)) (DSs.one (DS.if (DT.cmp (op_neD' hr) (DE.callB (bi_repr hr hga) (DA.cons (DE.lst (DA.cons (DE.call (ok_standing_in (P := P) (w := w) (base := base) E TB_wrong_lot hm_wrong_lot hu_wrong_lot) (hr.mono (by decide)) hga tk NdC.no .nil E.g_standing_in E.F_standing_in.kp (b_standing_in E) rfl (LenA.cons (LenA.cons LenA.nil)) (DA.cons (DE.var 10) (DA.cons (DE.var 3) DA.nil))) (DA.cons (DE.callK (ks := ["crate", "lot"]) (is := [1, 0]) (ok_standing_in (P := P) (w := w) (base := base) E TB_wrong_lot hm_wrong_lot hu_wrong_lot) (hr.mono (by decide)) hga tk NdC.no E.g_standing_in E.F_standing_in.kp (bk_standing_in_crate_lot E) (by decide) rfl (by decide) (LenA.cons (LenA.cons LenA.nil)) (DK.cons (DE.var 3) (DK.cons (DE.var 10) DK.nil))) DA.nil))) DA.nil) E.b_repr) (DE.callB (bi_repr hr hga) (DA.cons (DE.lst (DA.cons (DE.var 11) (DA.cons (DE.var 11) DA.nil))) DA.nil) E.b_repr) (nomark _)) (DSs.one (DS.ret DE.bool)) DSs.nil))))))))))))) (DSs.one (DS.ret DE.bool)))
theorem ok_law {P : Program} {w : World} {K : PySem.W.Frag} {mg : Str → Option Value} {base : Heap} {T : List NTab} (E : Tx K mg) (TB_wrong_lot : TabB base mg E.tc_wrong_lot E.tp_wrong_lot) (hm_wrong_lot : (E.tp_wrong_lot, nm_wrong_lot) ∈ T) (hu_wrong_lot : ∀ p ∈ T, p.1 = E.tp_wrong_lot → p.2 = nm_wrong_lot) : FnC P w K mg base T 46 E.f_law E.fd_law ["script"] false R_law := by
  refine FunX.ok (k := 45) (io := false) E.F_law sc_law (fun _ => []) ?_
  intro A outer s H E0 X F W hX hT hnds hnp hr hga tk hclo hpo
  subst hT
  subst hX
  exact (DSs.one (DS.ret (DE.callB (bi_all rfl) (DA.cons (DE.lc (own := [("k", 1)]) rfl sc_law.nd (DI.seq (DE.call (ok__law_turns (P := P) (w := w) (base := base) E) (hr.mono (by decide)) hga tk NdC.no .nil E.g__law_turns E.F__law_turns.kp (b__law_turns E) rfl (LenA.cons LenA.nil) (DA.cons (DE.var 0) DA.nil))) (blkOk_by (N := N_law) (sc := (defScope s_law)) (own := [("k", 1)]) (by decide +kernel)) (by decide) (fun _ _ _ _ _ => (DG.name (i := 1) sc_law.nd rfl (by first | exact .inl rfl | exact .inr rfl) (by rw [hnp]; decide))) (fun _ _ _ _ _ => DTs.nil) (fun _ _ _ _ _ => (DE.call (ok__law_right (P := P) (w := w) (base := base) E TB_wrong_lot hm_wrong_lot hu_wrong_lot) (hr.mono (by decide)) hga takesF NdC.no .nil E.g__law_right E.F__law_right.kp (b__law_right E) rfl (LenA.cons LenA.nil) (DA.cons (DE.call (ok__law_well (P := P) (w := w) (base := base) E) (hr.mono (by decide)) hga takesF NdC.no .nil E.g__law_well E.F__law_well.kp (b__law_well E) rfl (LenA.cons (LenA.cons LenA.nil)) (DA.cons (DE.var 0) (DA.cons (DE.var 1) DA.nil))) DA.nil)))) DA.nil) E.b_all)))
end LW

set_option Elab.async false
set_option linter.all false
set_option maxRecDepth 100000
set_option maxHeartbeats 1000000
namespace LW
open PySem PySem.Spec PyProof.Rows L2 LamX NdefX MP
theorem whole_int (i : Int) : R_is_whole [.fz (.int i)] = .ok (.fz (.bool true)) none := by
  simp [R_is_whole, M_is_whole, runF, MP.fin, MP.finR, MP.outI, MP.start0, MP.retM, MP.andE, MP.orE, MP.notE, MP.unM, MP.isiD, MP.tyD, MP.varM, MP.conM, MP.Res.bind, MP.Rv.get, MP.ORes.res, MP.ifM, MP.seqM, MP.notT, MP.truM, MP.cmpM, MP.binM, MP.andT, MP.orT, MP.ifE, MP.exprM, MP.nxM, MP.retN, MP.callM, MP.callKM, MP.kall, MP.argsE, MP.argE, MP.esc1, MP.rtR, MP.consA, MP.nilA, MP.biM, MP.getL, MP.arg1, MP.arg2, MP.asgM, MP.fzR, MP.stS, MP.nameG, MP.consG, MP.nilG, MP.tupG, MP.parM, MP.asgTM, MP.subG, MP.mutM, MP.escL, MP.lstM, MP.tupM, MP.ixM, MP.isNotD, MP.isD, MP.isNone, MP.lenD, MP.absD, MP.intD, MP.max2D, MP.min2D, MP.listD, MP.tupleD, MP.forM, MP.seqI, MP.itemsD, MP.enumI, MP.rng1I, MP.rng2I, MP.lockI, MP.lcM, MP.yesM, MP.restore, MP.hide, MP.chainM, MP.chainT, MP.pick, MP.Sl.get]
theorem number_int (i lo hi : Int) : R_is_number [.fz (.int i), .fz (.int lo), .fz (.int hi)] = .ok (.fz (.bool (decide (lo ≤ i ∧ i ≤ hi)))) none := by
  simp [R_is_number, M_is_number, runF, whole_int, MP.fin, MP.finR, MP.outI, MP.start0, MP.retM, MP.andE, MP.orE, MP.notE, MP.unM, MP.isiD, MP.tyD, MP.varM, MP.conM, MP.Res.bind, MP.Rv.get, MP.ORes.res, MP.ifM, MP.seqM, MP.notT, MP.truM, MP.cmpM, MP.binM, MP.andT, MP.orT, MP.ifE, MP.exprM, MP.nxM, MP.retN, MP.callM, MP.callKM, MP.kall, MP.argsE, MP.argE, MP.esc1, MP.rtR, MP.consA, MP.nilA, MP.biM, MP.getL, MP.arg1, MP.arg2, MP.asgM, MP.fzR, MP.stS, MP.nameG, MP.consG, MP.nilG, MP.tupG, MP.parM, MP.asgTM, MP.subG, MP.mutM, MP.escL, MP.lstM, MP.tupM, MP.ixM, MP.isNotD, MP.isD, MP.isNone, MP.lenD, MP.absD, MP.intD, MP.max2D, MP.min2D, MP.listD, MP.tupleD, MP.forM, MP.seqI, MP.itemsD, MP.enumI, MP.rng1I, MP.rng2I, MP.lockI, MP.lcM, MP.yesM, MP.restore, MP.hide, MP.chainM, MP.chainT, MP.pick, MP.Sl.get]
  by_cases h : i < lo
  · have : ¬ (lo ≤ i ∧ i ≤ hi) := by omega
    simp [h]; omega
  · by_cases h2 : i ≤ hi
    · have : lo ≤ i ∧ i ≤ hi := by omega
      simp [h, this]
    · simp [h, h2]
theorem dip {a b c m : Int} (h : 0 < m ∧ m < 1073741824) : ∃ r a' b' c', 0 ≤ r ∧ r < m ∧ R__law_dip [.ow [.int a, .int b, .int c], .fz (.int m)] = .ok (.fz (.int r)) (some [.int a', .int b', .int c']) := by
  by_cases ha : 0 < a
  · refine ⟨a % m, a / m, b, c, Int.emod_nonneg _ (by omega), Int.emod_lt_of_pos _ h.1, ?_⟩
    simp [R__law_dip, M__law_dip, runF, ixD, L2.atI, L2.ixN, ha, dmD_ii h, MP.fin, MP.finR, MP.outI, MP.start0, MP.retM, MP.andE, MP.orE, MP.notE, MP.unM, MP.isiD, MP.tyD, MP.varM, MP.conM, MP.Res.bind, MP.Rv.get, MP.ORes.res, MP.ifM, MP.seqM, MP.notT, MP.truM, MP.cmpM, MP.binM, MP.andT, MP.orT, MP.ifE, MP.exprM, MP.nxM, MP.retN, MP.callM, MP.callKM, MP.kall, MP.argsE, MP.argE, MP.esc1, MP.rtR, MP.consA, MP.nilA, MP.biM, MP.getL, MP.arg1, MP.arg2, MP.asgM, MP.fzR, MP.stS, MP.nameG, MP.consG, MP.nilG, MP.tupG, MP.parM, MP.asgTM, MP.subG, MP.mutM, MP.escL, MP.lstM, MP.tupM, MP.ixM, MP.isNotD, MP.isD, MP.isNone, MP.lenD, MP.absD, MP.intD, MP.max2D, MP.min2D, MP.listD, MP.tupleD, MP.forM, MP.seqI, MP.itemsD, MP.enumI, MP.rng1I, MP.rng2I, MP.lockI, MP.lcM, MP.yesM, MP.restore, MP.hide, MP.chainM, MP.chainT, MP.pick, MP.Sl.get]
  · refine ⟨(b * 48271 + 7919 * (c + 1) + 109) % 2147480009 / 163 % m, a, (b * 48271 + 7919 * (c + 1) + 109) % 2147480009, c + 1, Int.emod_nonneg _ (by omega), Int.emod_lt_of_pos _ h.1, ?_⟩
    simp [R__law_dip, M__law_dip, runF, ixD, L2.atI, L2.ixN, ha, mulD, big, modD, fdivD, h.1, MP.fin, MP.finR, MP.outI, MP.start0, MP.retM, MP.andE, MP.orE, MP.notE, MP.unM, MP.isiD, MP.tyD, MP.varM, MP.conM, MP.Res.bind, MP.Rv.get, MP.ORes.res, MP.ifM, MP.seqM, MP.notT, MP.truM, MP.cmpM, MP.binM, MP.andT, MP.orT, MP.ifE, MP.exprM, MP.nxM, MP.retN, MP.callM, MP.callKM, MP.kall, MP.argsE, MP.argE, MP.esc1, MP.rtR, MP.consA, MP.nilA, MP.biM, MP.getL, MP.arg1, MP.arg2, MP.asgM, MP.fzR, MP.stS, MP.nameG, MP.consG, MP.nilG, MP.tupG, MP.parM, MP.asgTM, MP.subG, MP.mutM, MP.escL, MP.lstM, MP.tupM, MP.ixM, MP.isNotD, MP.isD, MP.isNone, MP.lenD, MP.absD, MP.intD, MP.max2D, MP.min2D, MP.listD, MP.tupleD, MP.forM, MP.seqI, MP.itemsD, MP.enumI, MP.rng1I, MP.rng2I, MP.lockI, MP.lcM, MP.yesM, MP.restore, MP.hide, MP.chainM, MP.chainT, MP.pick, MP.Sl.get]
/-- the well -/
def IsWell (l : List D) : Prop := ∃ a b c : Int, l = [.int a, .int b, .int c]
theorem dip_ok {l : List D} {m : Int} (hw : IsWell l) (h : 0 < m ∧ m < 1073741824) : ∃ (r : Int) (l' : List D), 0 ≤ r ∧ r < m ∧ IsWell l' ∧ R__law_dip [.ow l, .fz (.int m)] = .ok (.fz (.int r)) (some l') := by
  obtain ⟨a, b, c, rfl⟩ := hw
  obtain ⟨r, a', b', c', h1, h2, e⟩ := dip (a := a) (b := b) (c := c) h
  exact ⟨r, _, h1, h2, ⟨a', b', c', rfl⟩, e⟩
/-- one of a list, a tuple or a text -/
theorem atI_in {α : Type} {l : List α} {r : Int} (h0 : 0 ≤ r) (h1 : r < l.length) : ∃ a ∈ l, L2.atI l r = some a := by
  refine ⟨l[r.toNat]'(by omega), List.getElem_mem _, ?_⟩
  unfold L2.atI L2.ixN
  rw [if_pos h0, if_pos h1]
  simp
theorem one_list {l some_ : List D} (hw : IsWell l) (hn : some_ ≠ []) (hz : some_.length < 1073741824) : ∃ (d : D) (l' : List D), d ∈ some_ ∧ IsWell l' ∧ R__law_one [.ow l, .fz (.list some_)] = .ok (.fz d) (some l') := by
  have hp : 0 < some_.length := List.length_pos_iff.mpr hn
  obtain ⟨r, l', h1, h2, h3, e⟩ := dip_ok (m := some_.length) hw ⟨by omega, by omega⟩
  obtain ⟨d, hd, ed⟩ := atI_in h1 h2
  exact ⟨d, l', hd, h3, by simp [R__law_one, M__law_one, runF, e, ixD, ed, MP.fin, MP.finR, MP.outI, MP.start0, MP.retM, MP.andE, MP.orE, MP.notE, MP.unM, MP.isiD, MP.tyD, MP.varM, MP.conM, MP.Res.bind, MP.Rv.get, MP.ORes.res, MP.ifM, MP.seqM, MP.notT, MP.truM, MP.cmpM, MP.binM, MP.andT, MP.orT, MP.ifE, MP.exprM, MP.nxM, MP.retN, MP.callM, MP.callKM, MP.kall, MP.argsE, MP.argE, MP.esc1, MP.rtR, MP.consA, MP.nilA, MP.biM, MP.getL, MP.arg1, MP.arg2, MP.asgM, MP.fzR, MP.stS, MP.nameG, MP.consG, MP.nilG, MP.tupG, MP.parM, MP.asgTM, MP.subG, MP.mutM, MP.escL, MP.lstM, MP.tupM, MP.ixM, MP.isNotD, MP.isD, MP.isNone, MP.lenD, MP.absD, MP.intD, MP.max2D, MP.min2D, MP.listD, MP.tupleD, MP.forM, MP.seqI, MP.itemsD, MP.enumI, MP.rng1I, MP.rng2I, MP.lockI, MP.lcM, MP.yesM, MP.restore, MP.hide, MP.chainM, MP.chainT, MP.pick, MP.Sl.get]⟩
theorem one_str {l : List D} {z : Str} (hw : IsWell l) (hn : 0 < z.length) (hz : z.length ≤ 1000) : ∃ (c : Nat) (l' : List D), c ∈ z.cps.toList ∧ IsWell l' ∧ R__law_one [.ow l, .fz (.str z)] = .ok (.fz (.str ⟨#[c]⟩)) (some l') := by
  have hl : z.cps.toList.length = z.length := by simp [Str.length]
  obtain ⟨r, l', h1, h2, h3, e⟩ := dip_ok (m := z.length) hw ⟨by omega, by omega⟩
  obtain ⟨d, hd, ed⟩ := atI_in (l := z.cps.toList) h1 (by rw [hl]; exact h2)
  have hz' : z.length ≤ line := by unfold line; omega
  exact ⟨d, l', hd, h3, by simp [R__law_one, M__law_one, runF, e, ixD, ed, hz', MP.fin, MP.finR, MP.outI, MP.start0, MP.retM, MP.andE, MP.orE, MP.notE, MP.unM, MP.isiD, MP.tyD, MP.varM, MP.conM, MP.Res.bind, MP.Rv.get, MP.ORes.res, MP.ifM, MP.seqM, MP.notT, MP.truM, MP.cmpM, MP.binM, MP.andT, MP.orT, MP.ifE, MP.exprM, MP.nxM, MP.retN, MP.callM, MP.callKM, MP.kall, MP.argsE, MP.argE, MP.esc1, MP.rtR, MP.consA, MP.nilA, MP.biM, MP.getL, MP.arg1, MP.arg2, MP.asgM, MP.fzR, MP.stS, MP.nameG, MP.consG, MP.nilG, MP.tupG, MP.parM, MP.asgTM, MP.subG, MP.mutM, MP.escL, MP.lstM, MP.tupM, MP.ixM, MP.isNotD, MP.isD, MP.isNone, MP.lenD, MP.absD, MP.intD, MP.max2D, MP.min2D, MP.listD, MP.tupleD, MP.forM, MP.seqI, MP.itemsD, MP.enumI, MP.rng1I, MP.rng2I, MP.lockI, MP.lcM, MP.yesM, MP.restore, MP.hide, MP.chainM, MP.chainT, MP.pick, MP.Sl.get]⟩
/-! ### _law_well -/
theorem atI_map {ns : List Int} {k : Int} (h0 : 0 ≤ k) (h1 : k < ns.length) : ∃ n : Int, L2.atI (ns.map PyData.int) k = some (.int n) := by
  obtain ⟨a, ha, e⟩ := atI_in (l := ns.map PyData.int) h0 (by simpa using h1)
  obtain ⟨n, _, rfl⟩ := List.mem_map.mp ha
  exact ⟨n, e⟩
theorem well_ok {ns : List Int} {k : Int} (hk : 0 ≤ k) (hl : ns.length ≤ 63) : ∃ l, IsWell l ∧ R__law_well [.fz (.list (ns.map .int)), .fz (.int k)] = .ok (.ow l) none := by
  have hloop : ∀ (spot m : Int), ∃ (m' : Int) (x : Sl), MP.loopM (MP.nameG 4) L__law_well_1 (MP.cutD (ns.map PyData.int) none (some 7) ++ [.int spot]) [.fz (.list (ns.map .int)), .fz (.int k), .fz (.int spot), .fz (.int m), .un] = .ok .nx [.fz (.list (ns.map .int)), .fz (.int k), .fz (.int spot), .fz (.int m'), x] := by
    intro spot m
    obtain ⟨δ', e, m', x, rfl⟩ := loopM_keep (g := MP.nameG 4) (b := L__law_well_1) (Iv := fun δ => ∃ (m' : Int) (x : Sl), δ = [.fz (.list (ns.map .int)), .fz (.int k), .fz (.int spot), .fz (.int m'), x]) (MP.cutD (ns.map PyData.int) none (some 7) ++ [.int spot]) (by
      intro d hd δ hI
      obtain ⟨m', x, rfl⟩ := hI
      have : ∃ i : Int, d = .int i := by
        rcases List.mem_append.mp hd with h | h
        · have h2 := List.mem_of_mem_drop (List.mem_of_mem_take h)
          obtain ⟨n, _, rfl⟩ := List.mem_map.mp h2
          exact ⟨n, rfl⟩
        · exact ⟨spot, by simpa using h⟩
      obtain ⟨i, rfl⟩ := this
      refine ⟨_, _, rfl, ?_, ⟨(m' * 34019 + i % 2147480009 + 103) % 2147480009, .fz (.int i), rfl⟩⟩
      simp [L__law_well_1, mulD, big, modD, MP.fin, MP.finR, MP.outI, MP.start0, MP.retM, MP.andE, MP.orE, MP.notE, MP.unM, MP.isiD, MP.tyD, MP.varM, MP.conM, MP.Res.bind, MP.Rv.get, MP.ORes.res, MP.ifM, MP.seqM, MP.notT, MP.truM, MP.cmpM, MP.binM, MP.andT, MP.orT, MP.ifE, MP.exprM, MP.nxM, MP.retN, MP.callM, MP.callKM, MP.kall, MP.argsE, MP.argE, MP.esc1, MP.rtR, MP.consA, MP.nilA, MP.biM, MP.getL, MP.arg1, MP.arg2, MP.asgM, MP.fzR, MP.stS, MP.nameG, MP.consG, MP.nilG, MP.tupG, MP.parM, MP.asgTM, MP.subG, MP.mutM, MP.escL, MP.lstM, MP.tupM, MP.ixM, MP.isNotD, MP.isD, MP.isNone, MP.lenD, MP.absD, MP.intD, MP.max2D, MP.min2D, MP.listD, MP.tupleD, MP.forM, MP.seqI, MP.itemsD, MP.enumI, MP.rng1I, MP.rng2I, MP.lockI, MP.lcM, MP.yesM, MP.restore, MP.hide, MP.chainM, MP.chainT, MP.pick, MP.Sl.get]) _ ⟨m, .un, rfl⟩
    exact ⟨m', x, e⟩
  have hsl : (ns.map PyData.int).length ≤ 63 := by simpa using hl
  have hcut : ∀ spot : Int, (MP.cutD (ns.map PyData.int) none (some 7)).length ≤ 16777215 := fun spot => by
    have : (MP.cutD (ns.map PyData.int) none (some 7)).length ≤ (ns.map PyData.int).length := by
      unfold MP.cutD; rw [List.length_take, List.length_drop]; omega
    omega
  obtain ⟨spot, hspot⟩ : ∃ spot : Int, (if k < ns.length then L2.atI (ns.map PyData.int) k = some (.int spot) else spot = 8887 * k + 1907) := by
    by_cases h : k < ns.length
    · obtain ⟨n, e⟩ := atI_map hk h
      exact ⟨n, by rw [if_pos h]; exact e⟩
    · exact ⟨_, by rw [if_neg h]⟩
  obtain ⟨m', x, e⟩ := hloop spot (24001 + 2309 * k)
  have h15 : (10 : Int) ^ 15 = 1000000000000000 := by decide
  refine ⟨[.int (if spot < 0 ∨ 1000000000000000 ≤ spot then (if spot < 0 then -spot else spot) else 0), .int m', .int 0], ⟨_, _, _, rfl⟩, ?_⟩
  by_cases h : k < ns.length
  · rw [if_pos h] at hspot
    have hc := hcut spot
    by_cases h1 : spot < 0
    · simp [R__law_well, M__law_well, runF, h, ixD, hspot, mulD, big, slM, partM, slD, addD, hc, e, powD, h15, line, h1, MP.fin, MP.finR, MP.outI, MP.start0, MP.retM, MP.andE, MP.orE, MP.notE, MP.unM, MP.isiD, MP.tyD, MP.varM, MP.conM, MP.Res.bind, MP.Rv.get, MP.ORes.res, MP.ifM, MP.seqM, MP.notT, MP.truM, MP.cmpM, MP.binM, MP.andT, MP.orT, MP.ifE, MP.exprM, MP.nxM, MP.retN, MP.callM, MP.callKM, MP.kall, MP.argsE, MP.argE, MP.esc1, MP.rtR, MP.consA, MP.nilA, MP.biM, MP.getL, MP.arg1, MP.arg2, MP.asgM, MP.fzR, MP.stS, MP.nameG, MP.consG, MP.nilG, MP.tupG, MP.parM, MP.asgTM, MP.subG, MP.mutM, MP.escL, MP.lstM, MP.tupM, MP.ixM, MP.isNotD, MP.isD, MP.isNone, MP.lenD, MP.absD, MP.intD, MP.max2D, MP.min2D, MP.listD, MP.tupleD, MP.forM, MP.seqI, MP.itemsD, MP.enumI, MP.rng1I, MP.rng2I, MP.lockI, MP.lcM, MP.yesM, MP.restore, MP.hide, MP.chainM, MP.chainT, MP.pick, MP.Sl.get]
    · by_cases h2 : 1000000000000000 ≤ spot <;> simp [R__law_well, M__law_well, runF, h, ixD, hspot, mulD, big, slM, partM, slD, addD, hc, e, powD, h15, line, h1, h2, MP.fin, MP.finR, MP.outI, MP.start0, MP.retM, MP.andE, MP.orE, MP.notE, MP.unM, MP.isiD, MP.tyD, MP.varM, MP.conM, MP.Res.bind, MP.Rv.get, MP.ORes.res, MP.ifM, MP.seqM, MP.notT, MP.truM, MP.cmpM, MP.binM, MP.andT, MP.orT, MP.ifE, MP.exprM, MP.nxM, MP.retN, MP.callM, MP.callKM, MP.kall, MP.argsE, MP.argE, MP.esc1, MP.rtR, MP.consA, MP.nilA, MP.biM, MP.getL, MP.arg1, MP.arg2, MP.asgM, MP.fzR, MP.stS, MP.nameG, MP.consG, MP.nilG, MP.tupG, MP.parM, MP.asgTM, MP.subG, MP.mutM, MP.escL, MP.lstM, MP.tupM, MP.ixM, MP.isNotD, MP.isD, MP.isNone, MP.lenD, MP.absD, MP.intD, MP.max2D, MP.min2D, MP.listD, MP.tupleD, MP.forM, MP.seqI, MP.itemsD, MP.enumI, MP.rng1I, MP.rng2I, MP.lockI, MP.lcM, MP.yesM, MP.restore, MP.hide, MP.chainM, MP.chainT, MP.pick, MP.Sl.get]
  · rw [if_neg h] at hspot
    have hc := hcut spot
    subst hspot
    have h1 : ¬ (8887 * k + 1907 < 0) := by omega
    by_cases h2 : 1000000000000000 ≤ 8887 * k + 1907 <;> simp [R__law_well, M__law_well, runF, h, mulD, big, slM, partM, slD, addD, hc, e, powD, h15, line, h1, h2, MP.fin, MP.finR, MP.outI, MP.start0, MP.retM, MP.andE, MP.orE, MP.notE, MP.unM, MP.isiD, MP.tyD, MP.varM, MP.conM, MP.Res.bind, MP.Rv.get, MP.ORes.res, MP.ifM, MP.seqM, MP.notT, MP.truM, MP.cmpM, MP.binM, MP.andT, MP.orT, MP.ifE, MP.exprM, MP.nxM, MP.retN, MP.callM, MP.callKM, MP.kall, MP.argsE, MP.argE, MP.esc1, MP.rtR, MP.consA, MP.nilA, MP.biM, MP.getL, MP.arg1, MP.arg2, MP.asgM, MP.fzR, MP.stS, MP.nameG, MP.consG, MP.nilG, MP.tupG, MP.parM, MP.asgTM, MP.subG, MP.mutM, MP.escL, MP.lstM, MP.tupM, MP.ixM, MP.isNotD, MP.isD, MP.isNone, MP.lenD, MP.absD, MP.intD, MP.max2D, MP.min2D, MP.listD, MP.tupleD, MP.forM, MP.seqI, MP.itemsD, MP.enumI, MP.rng1I, MP.rng2I, MP.lockI, MP.lcM, MP.yesM, MP.restore, MP.hide, MP.chainM, MP.chainT, MP.pick, MP.Sl.get]
end LW

set_option Elab.async false
set_option linter.all false
set_option maxRecDepth 100000
set_option maxHeartbeats 1000000
namespace LW
open PySem PySem.Spec PyProof.Rows L2 LamX NdefX MP
theorem letter_in {c : Nat} (h : 97 ≤ c ∧ c ≤ 122) : MP.inStr ⟨#[c]⟩ "abcdefghijklmnopqrstuvwxyz" = true := by
  have key : ∀ i : Fin 26, MP.inStr ⟨#[i.val + 97]⟩ "abcdefghijklmnopqrstuvwxyz" = true := by decide +kernel
  have := key ⟨c - 97, by omega⟩
  simpa [show c - 97 + 97 = c by omega] using this
def wordsL : List Str := (["above", "all", "any", "bears", "below", "broke", "by", "can", "crate", "day", "days", "goes", "guest", "held", "holds", "in"] : List Str) ++ (["leaves", "lifts", "loads", "most", "no", "none", "of", "on", "out", "pull", "put", "room", "rule", "shelf", "slip", "snow"] : List Str) ++ (["spare", "stack", "take", "tidy", "to", "top", "weighs", "with", "yard"] : List Str)
structure NmOk (z : Str) : Prop where
  lo : 1 ≤ z.length
  hi : z.length ≤ 8
  az : ∀ c ∈ z.cps.toList, 97 ≤ c ∧ c ≤ 122
  no : z ∉ wordsL
theorem boolsOf_true {α : Type} : ∀ l : List α, MP.boolsOf (l.map fun _ => PyData.bool true) = some (l.map fun _ => true)
  | [] => rfl
  | _ :: l => by simp [MP.boolsOf, boolsOf_true l]
theorem letters_ok {z : Str} (h : NmOk z) : R_is_letters [.fz (.str z), .fz (.int 1), .fz (.int 8)] = .ok (.fz (.bool true)) none := by
  have e := lcLoop_m (g := MP.nameG 3) (tt := MP.yesM) (te := E_is_letters_1) (vs := [3]) (δ := [.fz (.str z), .fz (.int 1), .fz (.int 8), .un]) (e := fun c => PyData.str ⟨#[c]⟩) (f := fun _ => .bool true) z.cps.toList (by
    intro c hc
    simp [turnC, E_is_letters_1, C_SMALL_LETTERS, inD, inB, letter_in (h.az c hc), MP.fin, MP.finR, MP.outI, MP.start0, MP.retM, MP.andE, MP.orE, MP.notE, MP.unM, MP.isiD, MP.tyD, MP.varM, MP.conM, MP.Res.bind, MP.Rv.get, MP.ORes.res, MP.ifM, MP.seqM, MP.notT, MP.truM, MP.cmpM, MP.binM, MP.andT, MP.orT, MP.ifE, MP.exprM, MP.nxM, MP.retN, MP.callM, MP.callKM, MP.kall, MP.argsE, MP.argE, MP.esc1, MP.rtR, MP.consA, MP.nilA, MP.biM, MP.getL, MP.arg1, MP.arg2, MP.asgM, MP.fzR, MP.stS, MP.nameG, MP.consG, MP.nilG, MP.tupG, MP.parM, MP.asgTM, MP.subG, MP.mutM, MP.escL, MP.lstM, MP.tupM, MP.ixM, MP.isNotD, MP.isD, MP.isNone, MP.lenD, MP.absD, MP.intD, MP.max2D, MP.min2D, MP.listD, MP.tupleD, MP.forM, MP.seqI, MP.itemsD, MP.enumI, MP.rng1I, MP.rng2I, MP.lockI, MP.lcM, MP.yesM, MP.restore, MP.hide, MP.chainM, MP.chainT, MP.pick, MP.Sl.get]) (by have := h.hi; simp [Str.length] at this ⊢; unfold line; omega)
  have h1 := h.lo
  have h2 := h.hi
  have h3 : (1 : Int) ≤ z.length := by omega
  have h4 : (z.length : Int) ≤ 8 := by omega
  have h5 : z.length ≤ line := by unfold line; omega
  simp [R_is_letters, M_is_letters, runF, h3, h4, h5, e, allD, boolsOf_map, MP.fin, MP.finR, MP.outI, MP.start0, MP.retM, MP.andE, MP.orE, MP.notE, MP.unM, MP.isiD, MP.tyD, MP.varM, MP.conM, MP.Res.bind, MP.Rv.get, MP.ORes.res, MP.ifM, MP.seqM, MP.notT, MP.truM, MP.cmpM, MP.binM, MP.andT, MP.orT, MP.ifE, MP.exprM, MP.nxM, MP.retN, MP.callM, MP.callKM, MP.kall, MP.argsE, MP.argE, MP.esc1, MP.rtR, MP.consA, MP.nilA, MP.biM, MP.getL, MP.arg1, MP.arg2, MP.asgM, MP.fzR, MP.stS, MP.nameG, MP.consG, MP.nilG, MP.tupG, MP.parM, MP.asgTM, MP.subG, MP.mutM, MP.escL, MP.lstM, MP.tupM, MP.ixM, MP.isNotD, MP.isD, MP.isNone, MP.lenD, MP.absD, MP.intD, MP.max2D, MP.min2D, MP.listD, MP.tupleD, MP.forM, MP.seqI, MP.itemsD, MP.enumI, MP.rng1I, MP.rng2I, MP.lockI, MP.lcM, MP.yesM, MP.restore, MP.hide, MP.chainM, MP.chainT, MP.pick, MP.Sl.get]
theorem nm_eqv {z y : Str} : PyData.eqv (.str y) (.str z) = (y == z) := by simp [PyData.eqv]
theorem name_ok {z : Str} (h : NmOk z) : R_is_name [.fz (.str z)] = .ok (.fz (.bool true)) none := by
  have hn : (wordsL.map PyData.str).any (fun y => PyData.eqv y (.str z)) = false := by
    rw [List.any_eq_false]
    intro d hd
    obtain ⟨y, hy, rfl⟩ := List.mem_map.mp hd
    rw [nm_eqv]
    intro he
    have : y = z := by simpa using he
    exact h.no (this ▸ hy)
  have hw : C_WORDS = .tuple (wordsL.map PyData.str) := rfl
  simp [R_is_name, M_is_name, runF, letters_ok h, C_MOST_IN_NAME, hw, notInD, inB, hn, PyData.depth, dep, MP.fin, MP.finR, MP.outI, MP.start0, MP.retM, MP.andE, MP.orE, MP.notE, MP.unM, MP.isiD, MP.tyD, MP.varM, MP.conM, MP.Res.bind, MP.Rv.get, MP.ORes.res, MP.ifM, MP.seqM, MP.notT, MP.truM, MP.cmpM, MP.binM, MP.andT, MP.orT, MP.ifE, MP.exprM, MP.nxM, MP.retN, MP.callM, MP.callKM, MP.kall, MP.argsE, MP.argE, MP.esc1, MP.rtR, MP.consA, MP.nilA, MP.biM, MP.getL, MP.arg1, MP.arg2, MP.asgM, MP.fzR, MP.stS, MP.nameG, MP.consG, MP.nilG, MP.tupG, MP.parM, MP.asgTM, MP.subG, MP.mutM, MP.escL, MP.lstM, MP.tupM, MP.ixM, MP.isNotD, MP.isD, MP.isNone, MP.lenD, MP.absD, MP.intD, MP.max2D, MP.min2D, MP.listD, MP.tupleD, MP.forM, MP.seqI, MP.itemsD, MP.enumI, MP.rng1I, MP.rng2I, MP.lockI, MP.lcM, MP.yesM, MP.restore, MP.hide, MP.chainM, MP.chainT, MP.pick, MP.Sl.get]
structure Cr where
  n : Str
  w : Int
  b : Int
def Cr.d (c : Cr) : D := .tuple [.str c.n, .int c.w, .int c.b]
structure Cr.Ok (c : Cr) : Prop where
  n : NmOk c.n
  w1 : 1 ≤ c.w
  w2 : c.w ≤ 999
  b1 : 0 ≤ c.b
  b2 : c.b ≤ 999
theorem tuple3 {l : List D} (h : l.length = 3) : R_is_tuple_of [.fz (.tuple l), .fz (.int 3)] = .ok (.fz (.bool true)) none := by
  simp [R_is_tuple_of, M_is_tuple_of, runF, h, MP.fin, MP.finR, MP.outI, MP.start0, MP.retM, MP.andE, MP.orE, MP.notE, MP.unM, MP.isiD, MP.tyD, MP.varM, MP.conM, MP.Res.bind, MP.Rv.get, MP.ORes.res, MP.ifM, MP.seqM, MP.notT, MP.truM, MP.cmpM, MP.binM, MP.andT, MP.orT, MP.ifE, MP.exprM, MP.nxM, MP.retN, MP.callM, MP.callKM, MP.kall, MP.argsE, MP.argE, MP.esc1, MP.rtR, MP.consA, MP.nilA, MP.biM, MP.getL, MP.arg1, MP.arg2, MP.asgM, MP.fzR, MP.stS, MP.nameG, MP.consG, MP.nilG, MP.tupG, MP.parM, MP.asgTM, MP.subG, MP.mutM, MP.escL, MP.lstM, MP.tupM, MP.ixM, MP.isNotD, MP.isD, MP.isNone, MP.lenD, MP.absD, MP.intD, MP.max2D, MP.min2D, MP.listD, MP.tupleD, MP.forM, MP.seqI, MP.itemsD, MP.enumI, MP.rng1I, MP.rng2I, MP.lockI, MP.lcM, MP.yesM, MP.restore, MP.hide, MP.chainM, MP.chainT, MP.pick, MP.Sl.get]
theorem crate_form {c : Cr} (h : c.Ok) : R_is_crate_form [.fz c.d] = .ok (.fz (.bool true)) none := by
  have := h.w1
  have := h.w2
  have := h.b1
  have := h.b2
  simp [R_is_crate_form, M_is_crate_form, runF, Cr.d, tuple3, ixD, L2.atI, L2.ixN, name_ok h.n, number_int, C_MOST_WEIGHT, C_MOST_BEARS, *, MP.fin, MP.finR, MP.outI, MP.start0, MP.retM, MP.andE, MP.orE, MP.notE, MP.unM, MP.isiD, MP.tyD, MP.varM, MP.conM, MP.Res.bind, MP.Rv.get, MP.ORes.res, MP.ifM, MP.seqM, MP.notT, MP.truM, MP.cmpM, MP.binM, MP.andT, MP.orT, MP.ifE, MP.exprM, MP.nxM, MP.retN, MP.callM, MP.callKM, MP.kall, MP.argsE, MP.argE, MP.esc1, MP.rtR, MP.consA, MP.nilA, MP.biM, MP.getL, MP.arg1, MP.arg2, MP.asgM, MP.fzR, MP.stS, MP.nameG, MP.consG, MP.nilG, MP.tupG, MP.parM, MP.asgTM, MP.subG, MP.mutM, MP.escL, MP.lstM, MP.tupM, MP.ixM, MP.isNotD, MP.isD, MP.isNone, MP.lenD, MP.absD, MP.intD, MP.max2D, MP.min2D, MP.listD, MP.tupleD, MP.forM, MP.seqI, MP.itemsD, MP.enumI, MP.rng1I, MP.rng2I, MP.lockI, MP.lcM, MP.yesM, MP.restore, MP.hide, MP.chainM, MP.chainT, MP.pick, MP.Sl.get]
theorem check_crate {c : Cr} (h : c.Ok) : R_check_crate [.fz c.d] = .ok (.fz .none) none := by
  simp [R_check_crate, M_check_crate, runF, crate_form h, MP.fin, MP.finR, MP.outI, MP.start0, MP.retM, MP.andE, MP.orE, MP.notE, MP.unM, MP.isiD, MP.tyD, MP.varM, MP.conM, MP.Res.bind, MP.Rv.get, MP.ORes.res, MP.ifM, MP.seqM, MP.notT, MP.truM, MP.cmpM, MP.binM, MP.andT, MP.orT, MP.ifE, MP.exprM, MP.nxM, MP.retN, MP.callM, MP.callKM, MP.kall, MP.argsE, MP.argE, MP.esc1, MP.rtR, MP.consA, MP.nilA, MP.biM, MP.getL, MP.arg1, MP.arg2, MP.asgM, MP.fzR, MP.stS, MP.nameG, MP.consG, MP.nilG, MP.tupG, MP.parM, MP.asgTM, MP.subG, MP.mutM, MP.escL, MP.lstM, MP.tupM, MP.ixM, MP.isNotD, MP.isD, MP.isNone, MP.lenD, MP.absD, MP.intD, MP.max2D, MP.min2D, MP.listD, MP.tupleD, MP.forM, MP.seqI, MP.itemsD, MP.enumI, MP.rng1I, MP.rng2I, MP.lockI, MP.lcM, MP.yesM, MP.restore, MP.hide, MP.chainM, MP.chainT, MP.pick, MP.Sl.get]
theorem does_for (c e : Cr) : R_does_for [.fz c.d, .fz e.d] = .ok (.fz (.bool (decide (c.w ≤ e.w ∧ e.b ≤ c.b)))) none := by
  by_cases h : c.w ≤ e.w <;> simp [R_does_for, M_does_for, runF, Cr.d, ixD, L2.atI, L2.ixN, h, MP.fin, MP.finR, MP.outI, MP.start0, MP.retM, MP.andE, MP.orE, MP.notE, MP.unM, MP.isiD, MP.tyD, MP.varM, MP.conM, MP.Res.bind, MP.Rv.get, MP.ORes.res, MP.ifM, MP.seqM, MP.notT, MP.truM, MP.cmpM, MP.binM, MP.andT, MP.orT, MP.ifE, MP.exprM, MP.nxM, MP.retN, MP.callM, MP.callKM, MP.kall, MP.argsE, MP.argE, MP.esc1, MP.rtR, MP.consA, MP.nilA, MP.biM, MP.getL, MP.arg1, MP.arg2, MP.asgM, MP.fzR, MP.stS, MP.nameG, MP.consG, MP.nilG, MP.tupG, MP.parM, MP.asgTM, MP.subG, MP.mutM, MP.escL, MP.lstM, MP.tupM, MP.ixM, MP.isNotD, MP.isD, MP.isNone, MP.lenD, MP.absD, MP.intD, MP.max2D, MP.min2D, MP.listD, MP.tupleD, MP.forM, MP.seqI, MP.itemsD, MP.enumI, MP.rng1I, MP.rng2I, MP.lockI, MP.lcM, MP.yesM, MP.restore, MP.hide, MP.chainM, MP.chainT, MP.pick, MP.Sl.get]
theorem stands_in {c e : Cr} (hc : c.Ok) (he : e.Ok) : R_stands_in [.fz c.d, .fz e.d] = .ok (.fz (.bool (decide (c.w ≤ e.w ∧ e.b ≤ c.b)))) none := by
  simp [R_stands_in, M_stands_in, runF, check_crate hc, check_crate he, does_for, MP.fin, MP.finR, MP.outI, MP.start0, MP.retM, MP.andE, MP.orE, MP.notE, MP.unM, MP.isiD, MP.tyD, MP.varM, MP.conM, MP.Res.bind, MP.Rv.get, MP.ORes.res, MP.ifM, MP.seqM, MP.notT, MP.truM, MP.cmpM, MP.binM, MP.andT, MP.orT, MP.ifE, MP.exprM, MP.nxM, MP.retN, MP.callM, MP.callKM, MP.kall, MP.argsE, MP.argE, MP.esc1, MP.rtR, MP.consA, MP.nilA, MP.biM, MP.getL, MP.arg1, MP.arg2, MP.asgM, MP.fzR, MP.stS, MP.nameG, MP.consG, MP.nilG, MP.tupG, MP.parM, MP.asgTM, MP.subG, MP.mutM, MP.escL, MP.lstM, MP.tupM, MP.ixM, MP.isNotD, MP.isD, MP.isNone, MP.lenD, MP.absD, MP.intD, MP.max2D, MP.min2D, MP.listD, MP.tupleD, MP.forM, MP.seqI, MP.itemsD, MP.enumI, MP.rng1I, MP.rng2I, MP.lockI, MP.lcM, MP.yesM, MP.restore, MP.hide, MP.chainM, MP.chainT, MP.pick, MP.Sl.get]
end LW

set_option Elab.async false
set_option linter.all false
set_option maxRecDepth 100000
set_option maxHeartbeats 1000000
namespace LW
open PySem PySem.Spec PyProof.Rows L2 LamX NdefX MP
def upTo (l : List Cr) (n : Int) : Int := ((l.filter fun c => decide (c.w + c.b ≤ n)).map Cr.w).sum
def ends (l : List Cr) (n : Int) : List Int := (l.filter fun c => decide (n ≤ c.w + c.b)).map fun c => c.w + c.b
def room (l : List Cr) (n : Int) : Int := minI (n - upTo l n) ((ends l n).map fun e => e - upTo l e)
def gb (l : List Cr) : Int := maxI 0 (l.map fun c => c.w + c.b)
def lotD (l : List Cr) : D := .tuple (l.map Cr.d)
theorem weight_up_to {l : List Cr} (hl : l.length ≤ line) (n : Int) : R_weight_up_to [.fz (lotD l), .fz (.int n)] = .ok (.fz (.int (upTo l n))) none := by
  have e := lcLoop_if (g := MP.tupG 3 (MP.consG (MP.nameG 2) (MP.consG (MP.nameG 3) (MP.consG (MP.nameG 4) MP.nilG)))) (tt := T_weight_up_to_1) (te := E_weight_up_to_1) (vs := [2, 3, 4]) (δ := [.fz (lotD l), .fz (.int n), .un, .un, .un]) (e := Cr.d) (p := fun c => decide (c.w + c.b ≤ n)) (f := fun c => .int c.w) l (by
    intro c hc
    by_cases h : c.w + c.b ≤ n <;> simp [turnC, T_weight_up_to_1, E_weight_up_to_1, Cr.d, h, MP.fin, MP.finR, MP.outI, MP.start0, MP.retM, MP.andE, MP.orE, MP.notE, MP.unM, MP.isiD, MP.tyD, MP.varM, MP.conM, MP.Res.bind, MP.Rv.get, MP.ORes.res, MP.ifM, MP.seqM, MP.notT, MP.truM, MP.cmpM, MP.binM, MP.andT, MP.orT, MP.ifE, MP.exprM, MP.nxM, MP.retN, MP.callM, MP.callKM, MP.kall, MP.argsE, MP.argE, MP.esc1, MP.rtR, MP.consA, MP.nilA, MP.biM, MP.getL, MP.arg1, MP.arg2, MP.asgM, MP.fzR, MP.stS, MP.nameG, MP.consG, MP.nilG, MP.tupG, MP.parM, MP.asgTM, MP.subG, MP.mutM, MP.escL, MP.lstM, MP.tupM, MP.ixM, MP.isNotD, MP.isD, MP.isNone, MP.lenD, MP.absD, MP.intD, MP.max2D, MP.min2D, MP.listD, MP.tupleD, MP.forM, MP.seqI, MP.itemsD, MP.enumI, MP.rng1I, MP.rng2I, MP.lockI, MP.lcM, MP.yesM, MP.restore, MP.hide, MP.chainM, MP.chainT, MP.pick, MP.Sl.get]) hl
  have hs := intsOf_map (f := Cr.w) (l.filter fun c : Cr => decide (c.w + c.b ≤ n))
  simp only [R_weight_up_to, M_weight_up_to, runF, lotD, MP.fin, MP.finR, MP.outI, MP.start0, MP.retM, MP.andE, MP.orE, MP.notE, MP.unM, MP.isiD, MP.tyD, MP.varM, MP.conM, MP.Res.bind, MP.Rv.get, MP.ORes.res, MP.ifM, MP.seqM, MP.notT, MP.truM, MP.cmpM, MP.binM, MP.andT, MP.orT, MP.ifE, MP.exprM, MP.nxM, MP.retN, MP.callM, MP.callKM, MP.kall, MP.argsE, MP.argE, MP.esc1, MP.rtR, MP.consA, MP.nilA, MP.biM, MP.getL, MP.arg1, MP.arg2, MP.asgM, MP.fzR, MP.stS, MP.nameG, MP.consG, MP.nilG, MP.tupG, MP.parM, MP.asgTM, MP.subG, MP.mutM, MP.escL, MP.lstM, MP.tupM, MP.ixM, MP.isNotD, MP.isD, MP.isNone, MP.lenD, MP.absD, MP.intD, MP.max2D, MP.min2D, MP.listD, MP.tupleD, MP.forM, MP.seqI, MP.itemsD, MP.enumI, MP.rng1I, MP.rng2I, MP.lockI, MP.lcM, MP.yesM, MP.restore, MP.hide, MP.chainM, MP.chainT, MP.pick, MP.Sl.get] at e hs ⊢
  simp [e, sumD, hs, upTo, MP.fin, MP.finR, MP.outI, MP.start0, MP.retM, MP.andE, MP.orE, MP.notE, MP.unM, MP.isiD, MP.tyD, MP.varM, MP.conM, MP.Res.bind, MP.Rv.get, MP.ORes.res, MP.ifM, MP.seqM, MP.notT, MP.truM, MP.cmpM, MP.binM, MP.andT, MP.orT, MP.ifE, MP.exprM, MP.nxM, MP.retN, MP.callM, MP.callKM, MP.kall, MP.argsE, MP.argE, MP.esc1, MP.rtR, MP.consA, MP.nilA, MP.biM, MP.getL, MP.arg1, MP.arg2, MP.asgM, MP.fzR, MP.stS, MP.nameG, MP.consG, MP.nilG, MP.tupG, MP.parM, MP.asgTM, MP.subG, MP.mutM, MP.escL, MP.lstM, MP.tupM, MP.ixM, MP.isNotD, MP.isD, MP.isNone, MP.lenD, MP.absD, MP.intD, MP.max2D, MP.min2D, MP.listD, MP.tupleD, MP.forM, MP.seqI, MP.itemsD, MP.enumI, MP.rng1I, MP.rng2I, MP.lockI, MP.lcM, MP.yesM, MP.restore, MP.hide, MP.chainM, MP.chainT, MP.pick, MP.Sl.get]
theorem law_to {l : List Cr} (hl : l.length ≤ line) (n : Int) : R__law_to [.fz (lotD l), .fz (.int n)] = .ok (.fz (.int (upTo l n))) none := by
  have e := lcLoop_if (g := MP.tupG 3 (MP.consG (MP.nameG 2) (MP.consG (MP.nameG 3) (MP.consG (MP.nameG 4) MP.nilG)))) (tt := T__law_to_1) (te := E__law_to_1) (vs := [2, 3, 4]) (δ := [.fz (lotD l), .fz (.int n), .un, .un, .un]) (e := Cr.d) (p := fun c => decide (c.w + c.b ≤ n)) (f := fun c => .int c.w) l (by
    intro c hc
    by_cases h : c.w + c.b ≤ n <;> simp [turnC, T__law_to_1, E__law_to_1, Cr.d, h, MP.fin, MP.finR, MP.outI, MP.start0, MP.retM, MP.andE, MP.orE, MP.notE, MP.unM, MP.isiD, MP.tyD, MP.varM, MP.conM, MP.Res.bind, MP.Rv.get, MP.ORes.res, MP.ifM, MP.seqM, MP.notT, MP.truM, MP.cmpM, MP.binM, MP.andT, MP.orT, MP.ifE, MP.exprM, MP.nxM, MP.retN, MP.callM, MP.callKM, MP.kall, MP.argsE, MP.argE, MP.esc1, MP.rtR, MP.consA, MP.nilA, MP.biM, MP.getL, MP.arg1, MP.arg2, MP.asgM, MP.fzR, MP.stS, MP.nameG, MP.consG, MP.nilG, MP.tupG, MP.parM, MP.asgTM, MP.subG, MP.mutM, MP.escL, MP.lstM, MP.tupM, MP.ixM, MP.isNotD, MP.isD, MP.isNone, MP.lenD, MP.absD, MP.intD, MP.max2D, MP.min2D, MP.listD, MP.tupleD, MP.forM, MP.seqI, MP.itemsD, MP.enumI, MP.rng1I, MP.rng2I, MP.lockI, MP.lcM, MP.yesM, MP.restore, MP.hide, MP.chainM, MP.chainT, MP.pick, MP.Sl.get]) hl
  have hs := intsOf_map (f := Cr.w) (l.filter fun c : Cr => decide (c.w + c.b ≤ n))
  simp only [R__law_to, M__law_to, runF, lotD, MP.fin, MP.finR, MP.outI, MP.start0, MP.retM, MP.andE, MP.orE, MP.notE, MP.unM, MP.isiD, MP.tyD, MP.varM, MP.conM, MP.Res.bind, MP.Rv.get, MP.ORes.res, MP.ifM, MP.seqM, MP.notT, MP.truM, MP.cmpM, MP.binM, MP.andT, MP.orT, MP.ifE, MP.exprM, MP.nxM, MP.retN, MP.callM, MP.callKM, MP.kall, MP.argsE, MP.argE, MP.esc1, MP.rtR, MP.consA, MP.nilA, MP.biM, MP.getL, MP.arg1, MP.arg2, MP.asgM, MP.fzR, MP.stS, MP.nameG, MP.consG, MP.nilG, MP.tupG, MP.parM, MP.asgTM, MP.subG, MP.mutM, MP.escL, MP.lstM, MP.tupM, MP.ixM, MP.isNotD, MP.isD, MP.isNone, MP.lenD, MP.absD, MP.intD, MP.max2D, MP.min2D, MP.listD, MP.tupleD, MP.forM, MP.seqI, MP.itemsD, MP.enumI, MP.rng1I, MP.rng2I, MP.lockI, MP.lcM, MP.yesM, MP.restore, MP.hide, MP.chainM, MP.chainT, MP.pick, MP.Sl.get] at e hs ⊢
  simp [e, sumD, hs, upTo, MP.fin, MP.finR, MP.outI, MP.start0, MP.retM, MP.andE, MP.orE, MP.notE, MP.unM, MP.isiD, MP.tyD, MP.varM, MP.conM, MP.Res.bind, MP.Rv.get, MP.ORes.res, MP.ifM, MP.seqM, MP.notT, MP.truM, MP.cmpM, MP.binM, MP.andT, MP.orT, MP.ifE, MP.exprM, MP.nxM, MP.retN, MP.callM, MP.callKM, MP.kall, MP.argsE, MP.argE, MP.esc1, MP.rtR, MP.consA, MP.nilA, MP.biM, MP.getL, MP.arg1, MP.arg2, MP.asgM, MP.fzR, MP.stS, MP.nameG, MP.consG, MP.nilG, MP.tupG, MP.parM, MP.asgTM, MP.subG, MP.mutM, MP.escL, MP.lstM, MP.tupM, MP.ixM, MP.isNotD, MP.isD, MP.isNone, MP.lenD, MP.absD, MP.intD, MP.max2D, MP.min2D, MP.listD, MP.tupleD, MP.forM, MP.seqI, MP.itemsD, MP.enumI, MP.rng1I, MP.rng2I, MP.lockI, MP.lcM, MP.yesM, MP.restore, MP.hide, MP.chainM, MP.chainT, MP.pick, MP.Sl.get]
theorem greatest_bound {l : List Cr} (hl : l.length + 1 ≤ line) : R_greatest_bound [.fz (lotD l)] = .ok (.fz (.int (gb l))) none := by
  have e := lcLoop_m (g := MP.tupG 3 (MP.consG (MP.nameG 1) (MP.consG (MP.nameG 2) (MP.consG (MP.nameG 3) MP.nilG)))) (tt := MP.yesM) (te := E_greatest_bound_1) (vs := [1, 2, 3]) (δ := [.fz (lotD l), .un, .un, .un]) (e := Cr.d) (f := fun c => .int (c.w + c.b)) l (by
    intro c hc
    simp [turnC, E_greatest_bound_1, Cr.d, MP.fin, MP.finR, MP.outI, MP.start0, MP.retM, MP.andE, MP.orE, MP.notE, MP.unM, MP.isiD, MP.tyD, MP.varM, MP.conM, MP.Res.bind, MP.Rv.get, MP.ORes.res, MP.ifM, MP.seqM, MP.notT, MP.truM, MP.cmpM, MP.binM, MP.andT, MP.orT, MP.ifE, MP.exprM, MP.nxM, MP.retN, MP.callM, MP.callKM, MP.kall, MP.argsE, MP.argE, MP.esc1, MP.rtR, MP.consA, MP.nilA, MP.biM, MP.getL, MP.arg1, MP.arg2, MP.asgM, MP.fzR, MP.stS, MP.nameG, MP.consG, MP.nilG, MP.tupG, MP.parM, MP.asgTM, MP.subG, MP.mutM, MP.escL, MP.lstM, MP.tupM, MP.ixM, MP.isNotD, MP.isD, MP.isNone, MP.lenD, MP.absD, MP.intD, MP.max2D, MP.min2D, MP.listD, MP.tupleD, MP.forM, MP.seqI, MP.itemsD, MP.enumI, MP.rng1I, MP.rng2I, MP.lockI, MP.lcM, MP.yesM, MP.restore, MP.hide, MP.chainM, MP.chainT, MP.pick, MP.Sl.get]) (by omega)
  have hs := intsOf_map (f := fun c : Cr => c.w + c.b) l
  have hl2 : 1 + l.length ≤ line := by omega
  simp only [R_greatest_bound, M_greatest_bound, runF, lotD, MP.fin, MP.finR, MP.outI, MP.start0, MP.retM, MP.andE, MP.orE, MP.notE, MP.unM, MP.isiD, MP.tyD, MP.varM, MP.conM, MP.Res.bind, MP.Rv.get, MP.ORes.res, MP.ifM, MP.seqM, MP.notT, MP.truM, MP.cmpM, MP.binM, MP.andT, MP.orT, MP.ifE, MP.exprM, MP.nxM, MP.retN, MP.callM, MP.callKM, MP.kall, MP.argsE, MP.argE, MP.esc1, MP.rtR, MP.consA, MP.nilA, MP.biM, MP.getL, MP.arg1, MP.arg2, MP.asgM, MP.fzR, MP.stS, MP.nameG, MP.consG, MP.nilG, MP.tupG, MP.parM, MP.asgTM, MP.subG, MP.mutM, MP.escL, MP.lstM, MP.tupM, MP.ixM, MP.isNotD, MP.isD, MP.isNone, MP.lenD, MP.absD, MP.intD, MP.max2D, MP.min2D, MP.listD, MP.tupleD, MP.forM, MP.seqI, MP.itemsD, MP.enumI, MP.rng1I, MP.rng2I, MP.lockI, MP.lcM, MP.yesM, MP.restore, MP.hide, MP.chainM, MP.chainT, MP.pick, MP.Sl.get] at e hs ⊢
  simp [e, max1D, hs, gb, intsOf, hl2, addD, MP.fin, MP.finR, MP.outI, MP.start0, MP.retM, MP.andE, MP.orE, MP.notE, MP.unM, MP.isiD, MP.tyD, MP.varM, MP.conM, MP.Res.bind, MP.Rv.get, MP.ORes.res, MP.ifM, MP.seqM, MP.notT, MP.truM, MP.cmpM, MP.binM, MP.andT, MP.orT, MP.ifE, MP.exprM, MP.nxM, MP.retN, MP.callM, MP.callKM, MP.kall, MP.argsE, MP.argE, MP.esc1, MP.rtR, MP.consA, MP.nilA, MP.biM, MP.getL, MP.arg1, MP.arg2, MP.asgM, MP.fzR, MP.stS, MP.nameG, MP.consG, MP.nilG, MP.tupG, MP.parM, MP.asgTM, MP.subG, MP.mutM, MP.escL, MP.lstM, MP.tupM, MP.ixM, MP.isNotD, MP.isD, MP.isNone, MP.lenD, MP.absD, MP.intD, MP.max2D, MP.min2D, MP.listD, MP.tupleD, MP.forM, MP.seqI, MP.itemsD, MP.enumI, MP.rng1I, MP.rng2I, MP.lockI, MP.lcM, MP.yesM, MP.restore, MP.hide, MP.chainM, MP.chainT, MP.pick, MP.Sl.get]
theorem room_at {l : List Cr} (hl : l.length + 1 ≤ line) (n : Int) : R_room_at [.fz (lotD l), .fz (.int n)] = .ok (.fz (.int (room l n))) none := by
  have e := lcLoop_if (g := MP.tupG 3 (MP.consG (MP.nameG 3) (MP.consG (MP.nameG 4) (MP.consG (MP.nameG 5) MP.nilG)))) (tt := T_room_at_1) (te := E_room_at_2) (vs := [3, 4, 5]) (δ := [.fz (lotD l), .fz (.int n), .un, .un, .un, .un, .un]) (e := Cr.d) (p := fun c => decide (n ≤ c.w + c.b)) (f := fun c => .int (c.w + c.b)) l (by
    intro c hc
    by_cases h : n ≤ c.w + c.b <;> simp [turnC, T_room_at_1, E_room_at_2, Cr.d, h, MP.fin, MP.finR, MP.outI, MP.start0, MP.retM, MP.andE, MP.orE, MP.notE, MP.unM, MP.isiD, MP.tyD, MP.varM, MP.conM, MP.Res.bind, MP.Rv.get, MP.ORes.res, MP.ifM, MP.seqM, MP.notT, MP.truM, MP.cmpM, MP.binM, MP.andT, MP.orT, MP.ifE, MP.exprM, MP.nxM, MP.retN, MP.callM, MP.callKM, MP.kall, MP.argsE, MP.argE, MP.esc1, MP.rtR, MP.consA, MP.nilA, MP.biM, MP.getL, MP.arg1, MP.arg2, MP.asgM, MP.fzR, MP.stS, MP.nameG, MP.consG, MP.nilG, MP.tupG, MP.parM, MP.asgTM, MP.subG, MP.mutM, MP.escL, MP.lstM, MP.tupM, MP.ixM, MP.isNotD, MP.isD, MP.isNone, MP.lenD, MP.absD, MP.intD, MP.max2D, MP.min2D, MP.listD, MP.tupleD, MP.forM, MP.seqI, MP.itemsD, MP.enumI, MP.rng1I, MP.rng2I, MP.lockI, MP.lcM, MP.yesM, MP.restore, MP.hide, MP.chainM, MP.chainT, MP.pick, MP.Sl.get]) (by omega)
  have hlen : (ends l n).length ≤ l.length := by unfold ends; rw [List.length_map]; exact List.length_filter_le _ _
  have hm : ((l.filter fun c => decide (n ≤ c.w + c.b)).map fun c => PyData.int (c.w + c.b)) = (ends l n).map .int := by simp [ends]
  rw [hm] at e
  have e2 := lcLoop_m (g := MP.nameG 6) (tt := MP.yesM) (te := E_room_at_1) (vs := [6]) (δ := [.fz (lotD l), .fz (.int n), .ow ((ends l n).map .int), .un, .un, .un, .un]) (e := PyData.int) (f := fun e => .int (e - upTo l e)) (n :: ends l n) (by
    intro c hc
    simp [turnC, E_room_at_1, weight_up_to (show l.length ≤ line by omega), MP.fin, MP.finR, MP.outI, MP.start0, MP.retM, MP.andE, MP.orE, MP.notE, MP.unM, MP.isiD, MP.tyD, MP.varM, MP.conM, MP.Res.bind, MP.Rv.get, MP.ORes.res, MP.ifM, MP.seqM, MP.notT, MP.truM, MP.cmpM, MP.binM, MP.andT, MP.orT, MP.ifE, MP.exprM, MP.nxM, MP.retN, MP.callM, MP.callKM, MP.kall, MP.argsE, MP.argE, MP.esc1, MP.rtR, MP.consA, MP.nilA, MP.biM, MP.getL, MP.arg1, MP.arg2, MP.asgM, MP.fzR, MP.stS, MP.nameG, MP.consG, MP.nilG, MP.tupG, MP.parM, MP.asgTM, MP.subG, MP.mutM, MP.escL, MP.lstM, MP.tupM, MP.ixM, MP.isNotD, MP.isD, MP.isNone, MP.lenD, MP.absD, MP.intD, MP.max2D, MP.min2D, MP.listD, MP.tupleD, MP.forM, MP.seqI, MP.itemsD, MP.enumI, MP.rng1I, MP.rng2I, MP.lockI, MP.lcM, MP.yesM, MP.restore, MP.hide, MP.chainM, MP.chainT, MP.pick, MP.Sl.get]) (by simp only [List.length_cons]; omega)
  have hs := intsOf_map (f := fun e : Int => e - upTo l e) (n :: ends l n)
  have hl2 : 1 + (ends l n).length ≤ line := by omega
  simp only [R_room_at, M_room_at, runF, lotD, List.map_cons, MP.fin, MP.finR, MP.outI, MP.start0, MP.retM, MP.andE, MP.orE, MP.notE, MP.unM, MP.isiD, MP.tyD, MP.varM, MP.conM, MP.Res.bind, MP.Rv.get, MP.ORes.res, MP.ifM, MP.seqM, MP.notT, MP.truM, MP.cmpM, MP.binM, MP.andT, MP.orT, MP.ifE, MP.exprM, MP.nxM, MP.retN, MP.callM, MP.callKM, MP.kall, MP.argsE, MP.argE, MP.esc1, MP.rtR, MP.consA, MP.nilA, MP.biM, MP.getL, MP.arg1, MP.arg2, MP.asgM, MP.fzR, MP.stS, MP.nameG, MP.consG, MP.nilG, MP.tupG, MP.parM, MP.asgTM, MP.subG, MP.mutM, MP.escL, MP.lstM, MP.tupM, MP.ixM, MP.isNotD, MP.isD, MP.isNone, MP.lenD, MP.absD, MP.intD, MP.max2D, MP.min2D, MP.listD, MP.tupleD, MP.forM, MP.seqI, MP.itemsD, MP.enumI, MP.rng1I, MP.rng2I, MP.lockI, MP.lcM, MP.yesM, MP.restore, MP.hide, MP.chainM, MP.chainT, MP.pick, MP.Sl.get] at e e2 hs ⊢
  simp [e, e2, min1D, hs, room, hl2, addD, MP.fin, MP.finR, MP.outI, MP.start0, MP.retM, MP.andE, MP.orE, MP.notE, MP.unM, MP.isiD, MP.tyD, MP.varM, MP.conM, MP.Res.bind, MP.Rv.get, MP.ORes.res, MP.ifM, MP.seqM, MP.notT, MP.truM, MP.cmpM, MP.binM, MP.andT, MP.orT, MP.ifE, MP.exprM, MP.nxM, MP.retN, MP.callM, MP.callKM, MP.kall, MP.argsE, MP.argE, MP.esc1, MP.rtR, MP.consA, MP.nilA, MP.biM, MP.getL, MP.arg1, MP.arg2, MP.asgM, MP.fzR, MP.stS, MP.nameG, MP.consG, MP.nilG, MP.tupG, MP.parM, MP.asgTM, MP.subG, MP.mutM, MP.escL, MP.lstM, MP.tupM, MP.ixM, MP.isNotD, MP.isD, MP.isNone, MP.lenD, MP.absD, MP.intD, MP.max2D, MP.min2D, MP.listD, MP.tupleD, MP.forM, MP.seqI, MP.itemsD, MP.enumI, MP.rng1I, MP.rng2I, MP.lockI, MP.lcM, MP.yesM, MP.restore, MP.hide, MP.chainM, MP.chainT, MP.pick, MP.Sl.get]

/-! ### barred_of -/
def bodyB (l o : List Cr) (n : Int) : Option D := if room l n < room o n then some (.tuple [.int (room o n), .int (n - room o n)]) else none
theorem barred_turn {l o : List Cr} (hl : l.length + 1 ≤ line) (ho : o.length + 1 ≤ line) (n : Int) (x : Sl) :
    L_barred_of_1 [.fz (lotD l), .fz (lotD o), .fz (.int n), x] = (match bodyB l o n with
      | some d => .ok (.rt (.fz d)) [.fz (lotD l), .fz (lotD o), .fz (.int n), .fz (.int (room o n))]
      | none => .ok .nx [.fz (lotD l), .fz (lotD o), .fz (.int n), .fz (.int (room o n))]) := by
  have e1 := room_at hl n
  have e2 := room_at ho n
  by_cases h : room l n < room o n
  · simp [L_barred_of_1, e1, e2, h, bodyB, MP.fin, MP.finR, MP.outI, MP.start0, MP.retM, MP.andE, MP.orE, MP.notE, MP.unM, MP.isiD, MP.tyD, MP.varM, MP.conM, MP.Res.bind, MP.Rv.get, MP.ORes.res, MP.ifM, MP.seqM, MP.notT, MP.truM, MP.cmpM, MP.binM, MP.andT, MP.orT, MP.ifE, MP.exprM, MP.nxM, MP.retN, MP.callM, MP.callKM, MP.kall, MP.argsE, MP.argE, MP.esc1, MP.rtR, MP.consA, MP.nilA, MP.biM, MP.getL, MP.arg1, MP.arg2, MP.asgM, MP.fzR, MP.stS, MP.nameG, MP.consG, MP.nilG, MP.tupG, MP.parM, MP.asgTM, MP.subG, MP.mutM, MP.escL, MP.lstM, MP.tupM, MP.ixM, MP.isNotD, MP.isD, MP.isNone, MP.lenD, MP.absD, MP.intD, MP.max2D, MP.min2D, MP.listD, MP.tupleD, MP.forM, MP.seqI, MP.itemsD, MP.enumI, MP.rng1I, MP.rng2I, MP.lockI, MP.lcM, MP.yesM, MP.restore, MP.hide, MP.chainM, MP.chainT, MP.pick, MP.Sl.get]
  · simp [L_barred_of_1, e1, e2, h, bodyB, MP.fin, MP.finR, MP.outI, MP.start0, MP.retM, MP.andE, MP.orE, MP.notE, MP.unM, MP.isiD, MP.tyD, MP.varM, MP.conM, MP.Res.bind, MP.Rv.get, MP.ORes.res, MP.ifM, MP.seqM, MP.notT, MP.truM, MP.cmpM, MP.binM, MP.andT, MP.orT, MP.ifE, MP.exprM, MP.nxM, MP.retN, MP.callM, MP.callKM, MP.kall, MP.argsE, MP.argE, MP.esc1, MP.rtR, MP.consA, MP.nilA, MP.biM, MP.getL, MP.arg1, MP.arg2, MP.asgM, MP.fzR, MP.stS, MP.nameG, MP.consG, MP.nilG, MP.tupG, MP.parM, MP.asgTM, MP.subG, MP.mutM, MP.escL, MP.lstM, MP.tupM, MP.ixM, MP.isNotD, MP.isD, MP.isNone, MP.lenD, MP.absD, MP.intD, MP.max2D, MP.min2D, MP.listD, MP.tupleD, MP.forM, MP.seqI, MP.itemsD, MP.enumI, MP.rng1I, MP.rng2I, MP.lockI, MP.lcM, MP.yesM, MP.restore, MP.hide, MP.chainM, MP.chainT, MP.pick, MP.Sl.get]
theorem barred_loop {l o : List Cr} (hl : l.length + 1 ≤ line) (ho : o.length + 1 ≤ line) : ∀ (ns : List Int) (y x : Sl), ∃ y' x',
    MP.loopM (MP.nameG 2) L_barred_of_1 (ns.map .int) [.fz (lotD l), .fz (lotD o), y, x] = (match ns.findSome? (bodyB l o) with
      | some d => .ok (.rt (.fz d)) [.fz (lotD l), .fz (lotD o), y', x']
      | none => .ok .nx [.fz (lotD l), .fz (lotD o), y', x'])
  | [], y, x => ⟨y, x, rfl⟩
  | n :: ns, y, x => by
    have e := barred_turn hl ho n x
    have hg : MP.nameG 2 (.int n) [.fz (lotD l), .fz (lotD o), y, x] = some [.fz (lotD l), .fz (lotD o), .fz (.int n), x] := rfl
    cases h : bodyB l o n with
    | some d =>
      rw [h] at e
      exact ⟨_, _, by rw [List.map_cons, loopM, hg]; simp only [e, List.findSome?_cons, h]; rfl⟩
    | none =>
      rw [h] at e
      obtain ⟨y', x', ih⟩ := barred_loop hl ho ns (.fz (.int n)) (.fz (.int (room o n)))
      exact ⟨y', x', by rw [List.map_cons, loopM, hg]; simp only [e, List.findSome?_cons, h]; exact ih⟩
def barred (l o : List Cr) : Option D := ((List.range (max (gb l) (gb o) + 1).toNat).map fun i : Nat => (i : Int)).findSome? (bodyB l o)
theorem barred_of {l o : List Cr} (hl : l.length + 1 ≤ line) (ho : o.length + 1 ≤ line) (h1 : 0 ≤ gb l ∧ gb l ≤ 1000000) (h2 : 0 ≤ gb o ∧ gb o ≤ 1000000) :
    R_barred_of [.fz (lotD l), .fz (lotD o)] = .ok (.fz ((barred l o).getD .none)) none := by
  have e1 := greatest_bound hl
  have e2 := greatest_bound ho
  obtain ⟨y, x, e3⟩ := barred_loop hl ho ((List.range (max (gb l) (gb o) + 1).toNat).map fun i : Nat => (i : Int)) .un .un
  have hm : (((List.range (max (gb l) (gb o) + 1).toNat).map fun i : Nat => (i : Int)).map PyData.int) = rangeL 0 (max (gb l) (gb o) + 1).toNat := by
    rw [rangeL_eq, List.map_map]
    apply List.map_congr_left
    intro a _
    simp
  rw [hm] at e3
  have hmx : max2D (.int (gb l)) (.int (gb o)) = .v (.int (max (gb l) (gb o))) := by
    simp only [max2D]
    congr 2
    split <;> omega
  have hb : -(2 ^ 62) ≤ max (gb l) (gb o) + 1 ∧ max (gb l) (gb o) + 1 < 2 ^ 62 := by omega
  have hrun : MP.forM (rng1I (binM addD (biM (arg2 max2D) (consA (callM false noB R_greatest_bound [] (consA (varM 0) nilA)) (consA (callM false noB R_greatest_bound [] (consA (varM 1) nilA)) nilA))) (conM (.int 1)))) (nameG 2) L_barred_of_1 [.fz (lotD l), .fz (lotD o), .un, .un] = MP.loopM (MP.nameG 2) L_barred_of_1 (rangeL 0 (max (gb l) (gb o) + 1).toNat) [.fz (lotD l), .fz (lotD o), .un, .un] := by
    simp only [e1, e2, addD, List.getElem?_cons_zero, List.getElem?_cons_succ, List.append_nil, List.map_nil, hmx, if_pos hb, List.nil_append, MP.forM, MP.rng1I, MP.binM, MP.biM, MP.arg2, MP.consA, MP.nilA, MP.callM, MP.kall, MP.varM, MP.argsE, MP.argE, MP.esc1, MP.rtR, MP.conM, MP.Res.bind, MP.Rv.get, MP.getL, MP.ORes.res]
  simp only [R_barred_of, M_barred_of, runF]
  cases h : (((List.range (max (gb l) (gb o) + 1).toNat).map fun i : Nat => (i : Int)).findSome? (bodyB l o)) with
  | some d => rw [h] at e3; simp [MP.seqM, MP.start0, hrun, e3, MP.fin, MP.outI, MP.finR, barred, h]
  | none => rw [h] at e3; simp [MP.seqM, MP.start0, hrun, e3, MP.fin, MP.outI, MP.finR, barred, h, MP.retM, MP.conM, MP.Res.bind]
end LW

set_option Elab.async false
set_option linter.all false
set_option maxRecDepth 100000
set_option maxHeartbeats 1000000
namespace LW
open PySem PySem.Spec PyProof.Rows L2 LamX NdefX MP
theorem upTo1 (c : Cr) (n : Int) : upTo [c] n = if c.w + c.b ≤ n then c.w else 0 := by
  by_cases h : c.w + c.b ≤ n <;> simp [upTo, h]
theorem upTo2 (c m : Cr) (n : Int) : upTo [c, m] n = (if c.w + c.b ≤ n then c.w else 0) + (if m.w + m.b ≤ n then m.w else 0) := by
  by_cases h : c.w + c.b ≤ n <;> by_cases h2 : m.w + m.b ≤ n <;> simp [upTo, h, h2]
theorem room1 {c : Cr} (hw : 0 ≤ c.w) (n : Int) : room [c] n = if n < c.w + c.b then (if c.b < n then c.b else n) else n - c.w := by
  unfold room ends
  rw [upTo1]
  by_cases h : c.w + c.b ≤ n
  · by_cases h2 : n ≤ c.w + c.b
    · have : n = c.w + c.b := by omega
      subst this
      simp [upTo1, minI]
    · have h3 : ¬ n < c.w + c.b := by omega
      simp [upTo1, minI, h, h2, h3]
  · have h2 : n ≤ c.w + c.b := by omega
    have h3 : n < c.w + c.b := by omega
    simp [upTo1, minI, h, h2, h3]
    have : c.w + c.b - c.w = c.b := by omega
    rw [this]
theorem room_f {c : Cr} (hw : 0 ≤ c.w) (n : Int) : (n < c.w + c.b → room [c] n ≤ c.b ∧ room [c] n ≤ n ∧ (room [c] n = c.b ∨ room [c] n = n)) ∧ (c.w + c.b ≤ n → room [c] n = n - c.w) := by
  rw [room1 hw]
  constructor
  · intro h
    rw [if_pos h]
    split <;> omega
  · intro h
    rw [if_neg (by omega)]
theorem gb1 {c : Cr} (h : 0 ≤ c.w + c.b) : gb [c] = c.w + c.b := by
  simp [gb, maxI]
  omega
def canB (l : List Cr) : Bool := l.all fun c => decide (upTo l (c.w + c.b) ≤ c.w + c.b)
theorem eqvAll_nil (l : List D) : PyData.eqvAll l [] = l.isEmpty := by cases l <;> simp [PyData.eqvAll]
theorem law_can {l : List Cr} (hl : l.length ≤ line) : R__law_can [.fz (lotD l)] = .ok (.fz (.bool (canB l))) none := by
  have e := lcLoop_if (g := MP.tupG 3 (MP.consG (MP.nameG 1) (MP.consG (MP.nameG 2) (MP.consG (MP.nameG 3) MP.nilG)))) (tt := T__law_can_1) (te := E__law_can_1) (vs := [1, 2, 3]) (δ := [.fz (lotD l), .un, .un, .un]) (e := Cr.d) (p := fun c => decide (c.w + c.b < upTo l (c.w + c.b))) (f := fun c => .int 1) l (by
    intro c hc
    by_cases h : c.w + c.b < upTo l (c.w + c.b) <;> simp [turnC, T__law_can_1, E__law_can_1, Cr.d, law_to hl, h, MP.fin, MP.finR, MP.outI, MP.start0, MP.retM, MP.andE, MP.orE, MP.notE, MP.unM, MP.isiD, MP.tyD, MP.varM, MP.conM, MP.Res.bind, MP.Rv.get, MP.ORes.res, MP.ifM, MP.seqM, MP.notT, MP.truM, MP.cmpM, MP.binM, MP.andT, MP.orT, MP.ifE, MP.exprM, MP.nxM, MP.retN, MP.callM, MP.callKM, MP.kall, MP.argsE, MP.argE, MP.esc1, MP.rtR, MP.consA, MP.nilA, MP.biM, MP.getL, MP.arg1, MP.arg2, MP.asgM, MP.fzR, MP.stS, MP.nameG, MP.consG, MP.nilG, MP.tupG, MP.parM, MP.asgTM, MP.subG, MP.mutM, MP.escL, MP.lstM, MP.tupM, MP.ixM, MP.isNotD, MP.isD, MP.isNone, MP.lenD, MP.absD, MP.intD, MP.max2D, MP.min2D, MP.listD, MP.tupleD, MP.forM, MP.seqI, MP.itemsD, MP.enumI, MP.rng1I, MP.rng2I, MP.lockI, MP.lcM, MP.yesM, MP.restore, MP.hide, MP.chainM, MP.chainT, MP.pick, MP.Sl.get]) hl
  have hc : ((l.filter fun c => decide (c.w + c.b < upTo l (c.w + c.b))).map fun c => PyData.int 1).isEmpty = canB l := by
    rw [List.isEmpty_map]
    unfold canB
    rw [Bool.eq_iff_iff]
    simp only [List.isEmpty_iff, List.filter_eq_nil_iff, List.all_eq_true, decide_eq_true_eq]
    constructor
    · intro h c hc; have := h c hc; omega
    · intro h c hc; have := h c hc; omega
  have hd : ∀ x : List D, eqD (.list x) (.list []) = .v (.bool x.isEmpty) := by
    intro x
    have : min (PyData.list x).depth (PyData.list []).depth ≤ dep := by
      have : (PyData.list []).depth ≤ dep := by decide
      omega
    simp [eqD, this, PyData.eqv, eqvAll_nil]
  rw [← hc]
  simp only [R__law_can, M__law_can, runF, lotD, MP.fin, MP.finR, MP.outI, MP.start0, MP.retM, MP.andE, MP.orE, MP.notE, MP.unM, MP.isiD, MP.tyD, MP.varM, MP.conM, MP.Res.bind, MP.Rv.get, MP.ORes.res, MP.ifM, MP.seqM, MP.notT, MP.truM, MP.cmpM, MP.binM, MP.andT, MP.orT, MP.ifE, MP.exprM, MP.nxM, MP.retN, MP.callM, MP.callKM, MP.kall, MP.argsE, MP.argE, MP.esc1, MP.rtR, MP.consA, MP.nilA, MP.biM, MP.getL, MP.arg1, MP.arg2, MP.asgM, MP.fzR, MP.stS, MP.nameG, MP.consG, MP.nilG, MP.tupG, MP.parM, MP.asgTM, MP.subG, MP.mutM, MP.escL, MP.lstM, MP.tupM, MP.ixM, MP.isNotD, MP.isD, MP.isNone, MP.lenD, MP.absD, MP.intD, MP.max2D, MP.min2D, MP.listD, MP.tupleD, MP.forM, MP.seqI, MP.itemsD, MP.enumI, MP.rng1I, MP.rng2I, MP.lockI, MP.lcM, MP.yesM, MP.restore, MP.hide, MP.chainM, MP.chainT, MP.pick, MP.Sl.get] at e ⊢
  simp [e, hd, MP.fin, MP.finR, MP.outI, MP.start0, MP.retM, MP.andE, MP.orE, MP.notE, MP.unM, MP.isiD, MP.tyD, MP.varM, MP.conM, MP.Res.bind, MP.Rv.get, MP.ORes.res, MP.ifM, MP.seqM, MP.notT, MP.truM, MP.cmpM, MP.binM, MP.andT, MP.orT, MP.ifE, MP.exprM, MP.nxM, MP.retN, MP.callM, MP.callKM, MP.kall, MP.argsE, MP.argE, MP.esc1, MP.rtR, MP.consA, MP.nilA, MP.biM, MP.getL, MP.arg1, MP.arg2, MP.asgM, MP.fzR, MP.stS, MP.nameG, MP.consG, MP.nilG, MP.tupG, MP.parM, MP.asgTM, MP.subG, MP.mutM, MP.escL, MP.lstM, MP.tupM, MP.ixM, MP.isNotD, MP.isD, MP.isNone, MP.lenD, MP.absD, MP.intD, MP.max2D, MP.min2D, MP.listD, MP.tupleD, MP.forM, MP.seqI, MP.itemsD, MP.enumI, MP.rng1I, MP.rng2I, MP.lockI, MP.lcM, MP.yesM, MP.restore, MP.hide, MP.chainM, MP.chainT, MP.pick, MP.Sl.get]
theorem can2 {c m : Cr} (hc : 0 ≤ c.b) (hm : 0 ≤ m.b) : canB [c, m] = decide ((m.w + m.b ≤ c.w + c.b → m.w ≤ c.b) ∧ (c.w + c.b ≤ m.w + m.b → c.w ≤ m.b)) := by
  rw [Bool.eq_iff_iff]
  simp only [canB, List.all_cons, List.all_nil, upTo2, Bool.and_eq_true, decide_eq_true_eq, and_true, Int.le_refl, if_true]
  constructor
  · rintro ⟨h1, h2⟩
    constructor
    · intro h; rw [if_pos h] at h1; omega
    · intro h; rw [if_pos h] at h2; omega
  · rintro ⟨h1, h2⟩
    constructor
    · split
      · rename_i h; have := h1 h; omega
      · omega
    · split
      · rename_i h; have := h2 h; omega
      · omega
theorem where_not {c e : Cr} (hc : c.Ok) (he : e.Ok) : R_where_not [.fz c.d, .fz e.d] = .ok (.fz ((barred [c] [e]).getD .none)) none := by
  have h1 := gb1 (c := c) (by have := hc.w1; have := hc.b1; omega)
  have h2 := gb1 (c := e) (by have := he.w1; have := he.b1; omega)
  have hb := barred_of (l := [c]) (o := [e]) (by simp) (by simp) (by rw [h1]; have := hc.w1; have := hc.b1; have := hc.w2; have := hc.b2; omega) (by rw [h2]; have := he.w1; have := he.b1; have := he.w2; have := he.b2; omega)
  simp only [lotD, List.map_cons, List.map_nil] at hb
  simp [R_where_not, M_where_not, runF, check_crate hc, check_crate he, hb, MP.fin, MP.finR, MP.outI, MP.start0, MP.retM, MP.andE, MP.orE, MP.notE, MP.unM, MP.isiD, MP.tyD, MP.varM, MP.conM, MP.Res.bind, MP.Rv.get, MP.ORes.res, MP.ifM, MP.seqM, MP.notT, MP.truM, MP.cmpM, MP.binM, MP.andT, MP.orT, MP.ifE, MP.exprM, MP.nxM, MP.retN, MP.callM, MP.callKM, MP.kall, MP.argsE, MP.argE, MP.esc1, MP.rtR, MP.consA, MP.nilA, MP.biM, MP.getL, MP.arg1, MP.arg2, MP.asgM, MP.fzR, MP.stS, MP.nameG, MP.consG, MP.nilG, MP.tupG, MP.parM, MP.asgTM, MP.subG, MP.mutM, MP.escL, MP.lstM, MP.tupM, MP.ixM, MP.isNotD, MP.isD, MP.isNone, MP.lenD, MP.absD, MP.intD, MP.max2D, MP.min2D, MP.listD, MP.tupleD, MP.forM, MP.seqI, MP.itemsD, MP.enumI, MP.rng1I, MP.rng2I, MP.lockI, MP.lcM, MP.yesM, MP.restore, MP.hide, MP.chainM, MP.chainT, MP.pick, MP.Sl.get]
def due (c e : Cr) : Bool := decide (c.w ≤ e.w ∧ e.b ≤ c.b)
theorem due_can {c e m : Cr} (hc : 0 ≤ c.b) (he : 0 ≤ e.b) (hm : 0 ≤ m.b) (h : due c e = true) (hcan : canB [e, m] = true) : canB [c, m] = true := by
  rw [can2 he hm] at hcan
  rw [can2 hc hm]
  simp only [due, decide_eq_true_eq] at h hcan ⊢
  omega
theorem barred_some {c e : Cr} (hc : c.Ok) (he : e.Ok) {d : D} (h : barred [c] [e] = some d) : ∃ a f : Int, d = .tuple [.int a, .int f] ∧ 1 ≤ a ∧ a ≤ 2000 ∧ 0 ≤ f ∧ f ≤ 2000 ∧ canB [e, ⟨"", a, f⟩] = true ∧ canB [c, ⟨"", a, f⟩] = false := by
  have := hc.w1; have := hc.b1; have := hc.w2; have := hc.b2
  have := he.w1; have := he.b1; have := he.w2; have := he.b2
  unfold barred at h
  obtain ⟨n, hn, e1⟩ := List.exists_of_findSome?_eq_some h
  rw [gb1 (by omega), gb1 (by omega)] at hn
  obtain ⟨i, hi, rfl⟩ := List.mem_map.mp hn
  have hi2 := List.mem_range.mp hi
  unfold bodyB at e1
  split at e1
  · rename_i hr
    cases e1
    have f1 := room_f (c := c) (by omega) (i : Int)
    have f2 := room_f (c := e) (by omega) (i : Int)
    generalize room [c] (i : Int) = r1 at hr f1
    generalize room [e] (i : Int) = r2 at hr f2 ⊢
    refine ⟨_, _, rfl, ?_⟩
    have hf : 0 ≤ (i : Int) - r2 := by omega
    rw [can2 (by omega) hf, can2 (by omega) hf]
    simp only [decide_eq_true_eq, decide_eq_false_iff_not]
    omega
  · cases e1
theorem barred_none {c e : Cr} (hc : c.Ok) (he : e.Ok) (h : barred [c] [e] = none) : due c e = true := by
  have := hc.w1; have := hc.b1; have := hc.w2; have := hc.b2
  have := he.w1; have := he.b1; have := he.w2; have := he.b2
  unfold barred at h
  rw [List.findSome?_eq_none_iff] at h
  rw [gb1 (by omega), gb1 (by omega)] at h
  have key : ∀ n : Int, 0 ≤ n → n ≤ max (c.w + c.b) (e.w + e.b) → room [e] n ≤ room [c] n := by
    intro n h0 h1
    have := h n (List.mem_map.mpr ⟨n.toNat, List.mem_range.mpr (by omega), by omega⟩)
    unfold bodyB at this
    split at this
    · cases this
    · omega
  have k1 := key (max (c.w + c.b) (e.w + e.b)) (by omega) (by omega)
  have k2 := key (c.w + c.b) (by omega) (by omega)
  have f1 := room_f (c := c) (by omega) (max (c.w + c.b) (e.w + e.b))
  have f2 := room_f (c := e) (by omega) (max (c.w + c.b) (e.w + e.b))
  have f3 := room_f (c := c) (by omega) (c.w + c.b)
  have f4 := room_f (c := e) (by omega) (c.w + c.b)
  simp only [due, decide_eq_true_eq]
  omega
theorem barred_due {c e : Cr} (hc : c.Ok) (he : e.Ok) : (barred [c] [e]).isNone = due c e := by
  cases h : barred [c] [e] with
  | none => simp [barred_none hc he h]
  | some d =>
    obtain ⟨a, f, _, _, _, hf, _, h1, h2⟩ := barred_some hc he h
    cases hd : due c e with
    | false => rfl
    | true =>
      have := due_can (m := ⟨"", a, f⟩) hc.b1 he.b1 hf hd h1
      rw [this] at h2; cases h2
/-- what the law asks of every third crate -/
theorem due_iff {c e : Cr} (hw : 1 ≤ c.w ∧ c.w ≤ 9) (hb : 0 ≤ c.b ∧ c.b ≤ 11) (hw2 : 1 ≤ e.w ∧ e.w ≤ 10) (hb2 : 0 ≤ e.b ∧ e.b ≤ 11) :
    (∀ a f : Int, 1 ≤ a → a ≤ 23 → 0 ≤ f → f ≤ 23 → canB [e, ⟨"", a, f⟩] = true → canB [c, ⟨"", a, f⟩] = true) ↔ due c e = true := by
  constructor
  · intro h
    have key : ∀ a f : Int, 1 ≤ a → a ≤ 23 → 0 ≤ f → f ≤ 23 → ((a + f ≤ e.w + e.b → a ≤ e.b) ∧ (e.w + e.b ≤ a + f → e.w ≤ f)) → ((a + f ≤ c.w + c.b → a ≤ c.b) ∧ (c.w + c.b ≤ a + f → c.w ≤ f)) := by
      intro a f h1 h2 h3 h4 h5
      have := h a f h1 h2 h3 h4 (by rw [can2 (by omega) h3]; exact decide_eq_true h5)
      rw [can2 (by omega) h3] at this
      exact of_decide_eq_true this
    simp only [due, decide_eq_true_eq]
    have k1 := key (max (max e.b (c.w + c.b - e.w)) 1) e.w (by omega) (by omega) (by omega) (by omega)
    have k2 := key (c.b + 1) (c.w - 1) (by omega) (by omega) (by omega) (by omega)
    omega
  · intro h a f _ _ hf _ h2
    exact due_can hb.1 hb2.1 hf h h2
end LW

set_option Elab.async false
set_option linter.all false
set_option maxRecDepth 100000
set_option maxHeartbeats 1000000
namespace LW
open PySem PySem.Spec PyProof.Rows L2 LamX NdefX MP
def Az (z : Str) : Prop := ∀ c ∈ z.cps.toList, 97 ≤ c ∧ c ≤ 122
def abc : Str := "abcdefghijklmnopqrstuvwxyz"
theorem abc_az {c : Nat} (h : c ∈ abc.cps.toList) : 97 ≤ c ∧ c ≤ 122 := by
  have key : ∀ c ∈ abc.cps.toList, 97 ≤ c ∧ c ≤ 122 := by decide +kernel
  exact key c h
theorem abc_len : abc.length = 26 := by decide +kernel
theorem nodup_len {α : Type} [DecidableEq α] : ∀ {l m : List α}, l.Nodup → (∀ a ∈ l, a ∈ m) → l.length ≤ m.length
  | [], m, _, _ => by simp
  | a :: l, m, h, hs => by
    rw [List.nodup_cons] at h
    have ham := hs a List.mem_cons_self
    have := nodup_len (m := m.erase a) h.2 (fun b hb => (List.mem_erase_of_ne (by rintro rfl; exact h.1 hb)).mpr (hs b (List.mem_cons_of_mem _ hb)))
    rw [List.length_erase_of_mem ham] at this
    have hp := List.length_pos_of_mem ham
    simp only [List.length_cons]
    omega
theorem wl {x y : Str} : (x ++ y).cps.toList = x.cps.toList ++ y.cps.toList := by
  show (x.cps ++ y.cps).toList = _
  simp
theorem sl {x y : Str} : (x ++ y).length = x.length + y.length := by
  show (x.cps ++ y.cps).size = _
  simp [Str.length]
def cut6 (z : Str) : Str := L2.cutS z none (some 6)
theorem cut6_len (z : Str) : (cut6 z).length ≤ 6 := by
  simp only [cut6, L2.cutS, Str.length, HT.sIx_none]
  have := HT.sIx_nat z.cps.size z.cps.size 6
  simp at this ⊢
  omega
theorem cut6_az {z : Str} (h : Az z) : Az (cut6 z) := by
  intro c hc
  simp only [cut6, L2.cutS] at hc
  exact h c (List.mem_of_mem_drop (List.mem_of_mem_take hc))
def qz (z : Str) (t : Str) (c : Nat) : Str := cut6 z ++ ⟨#[c]⟩ ++ t
def someL (z : Str) : List Str := [z] ++ abc.cps.toList.map (qz z "q") ++ abc.cps.toList.map (qz z "z")
theorem some_az {z y : Str} (h : Az z) (hy : y ∈ someL z) : Az y := by
  simp only [someL, List.mem_append, List.mem_singleton, List.mem_map] at hy
  have hq : ∀ t : Str, (∀ c ∈ t.cps.toList, 97 ≤ c ∧ c ≤ 122) → ∀ c ∈ abc.cps.toList, Az (qz z t c) := by
    intro t ht c hc d hd
    simp only [qz, wl, List.mem_append] at hd
    rcases hd with (h1 | h1) | h1
    · exact cut6_az h d h1
    · have : d = c := by simpa using h1
      subst this; exact abc_az hc
    · exact ht d h1
  rcases hy with (rfl | ⟨c, hc, rfl⟩) | ⟨c, hc, rfl⟩
  · exact h
  · exact hq "q" (by decide +kernel) c hc
  · exact hq "z" (by decide +kernel) c hc
theorem some_len {z y : Str} (h : 1 ≤ z.length) (h8 : z.length ≤ 8) (hy : y ∈ someL z) : 1 ≤ y.length ∧ y.length ≤ 8 := by
  simp only [someL, List.mem_append, List.mem_singleton, List.mem_map] at hy
  have hq : ∀ t : Str, t.length = 1 → ∀ c, 1 ≤ (qz z t c).length ∧ (qz z t c).length ≤ 8 := by
    intro t ht c
    have := cut6_len z
    have h1 : Str.length ⟨#[c]⟩ = 1 := rfl
    simp only [qz, sl, ht, h1]
    omega
  rcases hy with (rfl | ⟨c, hc, rfl⟩) | ⟨c, hc, rfl⟩
  · exact ⟨h, h8⟩
  · exact hq "q" (by decide +kernel) c
  · exact hq "z" (by decide +kernel) c
theorem words_noq {y : Str} (h : y ∈ wordsL) : y.cps.toList.getLast? ≠ some 113 := by
  have key : ∀ y ∈ wordsL, y.cps.toList.getLast? ≠ some 113 := by decide +kernel
  exact key y h
theorem some_new {z : Str} {found : List Str} (hf : found.length < 26) : ∃ y ∈ someL z, y ∉ found ++ wordsL := by
  apply Classical.byContradiction
  intro hn
  have hall : ∀ y ∈ someL z, y ∈ found ++ wordsL := by
    intro y hy
    apply Classical.byContradiction
    intro h2
    exact hn ⟨y, hy, h2⟩
  have hsub : ∀ y ∈ abc.cps.toList.map (qz z "q"), y ∈ found := by
    intro y hy
    have h1 := hall y (by simp only [someL, List.mem_append]; exact Or.inl (Or.inr hy))
    rcases List.mem_append.mp h1 with h | h
    · exact h
    · obtain ⟨c, hc, rfl⟩ := List.mem_map.mp hy
      refine absurd ?_ (words_noq h)
      have hq : (Str.ofString "q").cps.toList = [113] := by decide +kernel
      simp only [qz, wl, hq]
      simp
  have hnd : (abc.cps.toList.map (qz z "q")).Nodup := by
    have ha : abc.cps.toList.Nodup := by decide +kernel
    unfold List.Nodup at ha ⊢
    rw [List.pairwise_map]
    refine ha.imp ?_
    intro c d hcd he
    have := congrArg (fun y : Str => y.cps.toList) he
    simp only [qz, wl, List.append_assoc, List.append_cancel_left_eq] at this
    simp at this
    exact hcd this
  have := nodup_len hnd hsub
  rw [List.length_map] at this
  have h26 : abc.cps.toList.length = 26 := by decide +kernel
  omega
/-- texts in order -/
def SLt (a b : Str) : Prop := a.cps.toList < b.cps.toList
theorem le_str (a b : Str) : PySem.W.dataLe false id (PyData.str a) (PyData.str b) = !decide (b.cps.toList < a.cps.toList) := by
  rw [← PySem.W.dataLt_str]
  rfl
theorem srt_strs {l : List Str} (hn : l.Nodup) : ∃ m : List Str, srt (l.map .str) = m.map .str ∧ m.Perm l ∧ m.Pairwise SLt := by
  have hp : (srt (l.map PyData.str)).Perm (l.map .str) := List.mergeSort_perm _ _
  have hm : ∃ m : List Str, srt (l.map .str) = m.map .str := by
    have : ∀ d ∈ srt (l.map PyData.str), ∃ s, d = .str s := by
      intro d hd
      obtain ⟨s, _, rfl⟩ := List.mem_map.mp (hp.mem_iff.mp hd)
      exact ⟨s, rfl⟩
    generalize srt (l.map PyData.str) = x at this
    induction x with
    | nil => exact ⟨[], rfl⟩
    | cons d x ih =>
      obtain ⟨s, rfl⟩ := this d List.mem_cons_self
      obtain ⟨m, rfl⟩ := ih fun d hd => this d (List.mem_cons_of_mem _ hd)
      exact ⟨s :: m, rfl⟩
  obtain ⟨m, hm⟩ := hm
  rw [hm] at hp
  have hinj : ∀ {a b : Str}, PyData.str a = PyData.str b → a = b := fun h => by cases h; rfl
  have hp2 : m.Perm l := by
    have := hp.map (fun d : D => match d with | .str s => s | _ => "")
    rw [List.map_map, List.map_map] at this
    simpa [Function.comp_def] using this
  refine ⟨m, hm, hp2, ?_⟩
  have hpw : (m.map PyData.str).Pairwise (fun a b => PySem.W.dataLe false id a b = true) := by
    rw [← hm]; exact PySem.W.sort_pairwise (PySem.W.sortLe_total _ _ _) _
  rw [List.pairwise_map] at hpw
  have hnd : m.Nodup := hp2.nodup_iff.mpr hn
  refine (hpw.and hnd).imp ?_
  rintro a b ⟨h1, h2⟩
  rw [le_str] at h1
  simp only [Bool.not_eq_true', decide_eq_false_iff_not] at h1
  unfold SLt
  apply Classical.byContradiction
  intro h3
  apply h2
  have := List.le_antisymm (List.not_lt.mp h1) (List.not_lt.mp h3)
  cases a with | mk ca => cases b with | mk cb =>
  simp only at this
  congr 1
  exact Array.toList_inj.mp this
end LW

set_option Elab.async false
set_option linter.all false
set_option maxRecDepth 100000
set_option maxHeartbeats 1000000
namespace LW
open PySem PySem.Spec PyProof.Rows L2 LamX NdefX MP
def WS (l : List D) (many : Int) (found : List Str) (k w s : Sl) : Dl := [.ow l, .fz (.int many), .fz (.str abc), .ow (found.map .str), .ow (wordsL.map .str), k, w, .un, s, .un, .un]
theorem chars_of : ∀ ys : List D, (∀ y ∈ ys, ∃ c ∈ abc.cps.toList, y = .str ⟨#[c]⟩) → ∃ cs : List Nat, (∀ c ∈ cs, c ∈ abc.cps.toList) ∧ ys = cs.map fun c => .str ⟨#[c]⟩
  | [], _ => ⟨[], by simp, rfl⟩
  | y :: ys, h => by
    obtain ⟨c, hc, rfl⟩ := h y List.mem_cons_self
    obtain ⟨cs, h1, rfl⟩ := chars_of ys fun y hy => h y (List.mem_cons_of_mem _ hy)
    exact ⟨c :: cs, by intro d hd; rcases List.mem_cons.mp hd with rfl | hd; exact hc; exact h1 d hd, rfl⟩
theorem join_chars (cs : List Nat) : (Txt.join "" (cs.map fun c => (⟨#[c]⟩ : Str))).length = cs.length ∧ (∀ d ∈ (Txt.join "" (cs.map fun c => (⟨#[c]⟩ : Str))).cps.toList, d ∈ cs) := by
  constructor
  · have := PySem.W.KT.join_ones (cs.map fun c => (⟨#[c]⟩ : Str)) (by simp [Str.length])
    simpa using this
  · intro d hd
    rw [TL.join_eq] at hd
    rcases (PyProof.Rows.mem_join _ _ _).mp hd with ⟨t, ht, h⟩ | ⟨_, h⟩
    · obtain ⟨c, hc, rfl⟩ := List.mem_map.mp ht
      have : d = c := by simpa using h
      subst this; exact hc
    · have : (Str.ofString "").cps.toList = [] := by decide +kernel
      rw [this] at h; cases h
theorem word_ok {l : List D} (hw : IsWell l) {many : Int} {found : List Str} {k w s : Sl} : ∃ z l', IsWell l' ∧ Az z ∧ 1 ≤ z.length ∧ z.length ≤ 8 ∧
    MP.metM "str" joinD (conM (.str "")) (consA (lcM [] (rng1I (binM addD (conM (.int 1)) (callM true noB R__law_dip [] (consA (varM 0) (consA (callM true noB R__law_one [] (consA (varM 0) (consA (lstM (consA (conM (.int 2)) (consA (conM (.int 3)) (consA (conM (.int 8)) nilA)))) nilA))) nilA))))) (nameG 7) yesM E__law_words_4 [7]) nilA) (WS l many found k w s) = .ok (.fz (.str z)) (WS l' many found k w s) := by
  obtain ⟨d, l1, hd, hw1, e1⟩ := one_list (some_ := [.int 2, .int 3, .int 8]) hw (by simp) (by simp)
  obtain ⟨m, rfl, hm1, hm2⟩ : ∃ m : Int, d = .int m ∧ 2 ≤ m ∧ m ≤ 8 := by
    simp at hd
    rcases hd with rfl | rfl | rfl <;> exact ⟨_, rfl, by decide, by decide⟩
  obtain ⟨r, l2, hr1, hr2, hw2, e2⟩ := dip_ok (m := m) hw1 ⟨by omega, by omega⟩
  obtain ⟨ys, δ', e3, hlen, hP, l3, hw3, rfl⟩ := lcLoop_iv (g := MP.nameG 7) (tt := MP.yesM) (te := E__law_words_4) (vs := [7]) (Iv := fun δ => ∃ l, IsWell l ∧ δ = WS l many found k w s) (e := fun i : Nat => PyData.int (0 + (i : Nat))) (P := fun _ y => ∃ c ∈ abc.cps.toList, y = .str ⟨#[c]⟩) (List.range (1 + r).toNat) [] (by
    intro a ha δ hI
    obtain ⟨l, hw, rfl⟩ := hI
    obtain ⟨c, l', hc, hw', e⟩ := one_str (z := abc) hw (by rw [abc_len]; omega) (by rw [abc_len]; omega)
    refine ⟨.str ⟨#[c]⟩, WS l' many found k w s, ?_, ⟨c, hc, rfl⟩, ⟨l', hw', rfl⟩⟩
    simp [turnC, E__law_words_4, WS, e, MP.fin, MP.finR, MP.outI, MP.start0, MP.retM, MP.andE, MP.orE, MP.notE, MP.unM, MP.isiD, MP.tyD, MP.varM, MP.conM, MP.Res.bind, MP.Rv.get, MP.ORes.res, MP.ifM, MP.seqM, MP.notT, MP.truM, MP.cmpM, MP.binM, MP.andT, MP.orT, MP.ifE, MP.exprM, MP.nxM, MP.retN, MP.callM, MP.callKM, MP.kall, MP.argsE, MP.argE, MP.esc1, MP.rtR, MP.consA, MP.nilA, MP.biM, MP.getL, MP.arg1, MP.arg2, MP.asgM, MP.fzR, MP.stS, MP.nameG, MP.consG, MP.nilG, MP.tupG, MP.parM, MP.asgTM, MP.subG, MP.mutM, MP.escL, MP.lstM, MP.tupM, MP.ixM, MP.isNotD, MP.isD, MP.isNone, MP.lenD, MP.absD, MP.intD, MP.max2D, MP.min2D, MP.listD, MP.tupleD, MP.forM, MP.seqI, MP.itemsD, MP.enumI, MP.rng1I, MP.rng2I, MP.lockI, MP.lcM, MP.yesM, MP.restore, MP.hide, MP.chainM, MP.chainT, MP.pick, MP.Sl.get]) (by simp; unfold line; omega) (WS l2 many found k w s) ⟨l2, hw2, rfl⟩
  obtain ⟨cs, hcs, rfl⟩ := chars_of ys (by
    intro y hy
    obtain ⟨i, hi, rfl⟩ := List.mem_iff_getElem.mp hy
    exact hP i hi (by rw [← hlen]; exact hi))
  rw [← rangeL_eq] at e3
  rw [List.nil_append] at e3
  obtain ⟨hj1, hj2⟩ := join_chars cs
  have hl : cs.length = (1 + r).toNat := by simpa using hlen
  refine ⟨Txt.join "" (cs.map fun c => (⟨#[c]⟩ : Str)), l3, hw3, fun d hd => abc_az (hcs d (hj2 d hd)), by omega, by omega, ?_⟩
  have hb : -4611686018427387904 ≤ 1 + r ∧ 1 + r < 4611686018427387904 := by omega
  have hs := strsOf_map (f := fun c : Nat => (⟨#[c]⟩ : Str)) cs
  have hsz : ((cs.map fun c => (⟨#[c]⟩ : Str)).map (·.length)).sum + (cs.map fun c => (⟨#[c]⟩ : Str)).length * Str.length "" ≤ 16777216 := by
    have h0 : Str.length "" = 0 := by decide +kernel
    rw [h0, List.map_map]
    have : ∀ cs : List Nat, (cs.map ((fun x : Str => x.length) ∘ fun c => (⟨#[c]⟩ : Str))).sum = cs.length := by
      intro cs
      induction cs with
      | nil => rfl
      | cons a l ih =>
        simp only [List.map_cons, List.sum_cons, List.length_cons, ih, Function.comp_apply]
        have : Str.length ⟨#[a]⟩ = 1 := rfl
        omega
    rw [this, List.length_map]
    omega
  simp only [WS] at e3 ⊢
  simp [MP.metM, MP.tyOkD, e1, e2, hb, MP.rng1I, e3, MP.fin, MP.finR, MP.outI, MP.start0, MP.retM, MP.andE, MP.orE, MP.notE, MP.unM, MP.isiD, MP.tyD, MP.varM, MP.conM, MP.Res.bind, MP.Rv.get, MP.ORes.res, MP.ifM, MP.seqM, MP.notT, MP.truM, MP.cmpM, MP.binM, MP.andT, MP.orT, MP.ifE, MP.exprM, MP.nxM, MP.retN, MP.callM, MP.callKM, MP.kall, MP.argsE, MP.argE, MP.esc1, MP.rtR, MP.consA, MP.nilA, MP.biM, MP.getL, MP.arg1, MP.arg2, MP.asgM, MP.fzR, MP.stS, MP.nameG, MP.consG, MP.nilG, MP.tupG, MP.parM, MP.asgTM, MP.subG, MP.mutM, MP.escL, MP.lstM, MP.tupM, MP.ixM, MP.isNotD, MP.isD, MP.isNone, MP.lenD, MP.absD, MP.intD, MP.max2D, MP.min2D, MP.listD, MP.tupleD, MP.forM, MP.seqI, MP.itemsD, MP.enumI, MP.rng1I, MP.rng2I, MP.lockI, MP.lcM, MP.yesM, MP.restore, MP.hide, MP.chainM, MP.chainT, MP.pick, MP.Sl.get]
  simp only [joinD, hs, if_pos hsz]
end LW

set_option Elab.async false
set_option linter.all false
set_option maxRecDepth 100000
set_option maxHeartbeats 1000000
namespace LW
open PySem PySem.Spec PyProof.Rows L2 LamX NdefX MP
theorem chars_items (z : Str) : MP.itemsD (.str z) = some (z.cps.toList.map fun c => .str ⟨#[c]⟩) := rfl
theorem some_ok {l : List D} {many : Int} {found : List Str} {k s : Sl} {z : Str} (h8 : z.length ≤ 8) :
    (binM addD (binM addD (lstM (consA (varM 6) nilA)) (lcM [] (seqI (varM 2)) (nameG 9) yesM E__law_words_2 [9])) (lcM [] (seqI (varM 2)) (nameG 9) yesM E__law_words_3 [9])) (WS l many found k (.fz (.str z)) s) = .ok (.ow ((someL z).map .str)) (WS l many found k (.fz (.str z)) s) := by
  have hz : z.length ≤ line := by unfold line; omega
  have h6 := cut6_len z
  have hc1 : ∀ c : Nat, Str.length ⟨#[c]⟩ = 1 := fun _ => rfl
  have hq1 : (Str.ofString "q").length = 1 := by decide +kernel
  have hz1 : (Str.ofString "z").length = 1 := by decide +kernel
  have ha : ∀ c : Nat, (L2.cutS z none (some 6)).length + Str.length ⟨#[c]⟩ ≤ line := by intro c; have := hc1 c; unfold cut6 at h6; unfold line; omega
  have hb : ∀ c : Nat, (L2.cutS z none (some 6) ++ ⟨#[c]⟩).length + 1 ≤ line := by intro c; have := hc1 c; rw [sl]; unfold cut6 at h6; unfold line; omega
  have e1 := lcLoop_m (g := MP.nameG 9) (tt := MP.yesM) (te := E__law_words_2) (vs := [9]) (δ := WS l many found k (.fz (.str z)) s) (e := fun c : Nat => PyData.str ⟨#[c]⟩) (f := fun c => .str (qz z "q" c)) abc.cps.toList (by
    intro c hc
    simp [turnC, E__law_words_2, WS, slM, partM, slD, hz, addD, ha, hb, hq1, qz, cut6, MP.fin, MP.finR, MP.outI, MP.start0, MP.retM, MP.andE, MP.orE, MP.notE, MP.unM, MP.isiD, MP.tyD, MP.varM, MP.conM, MP.Res.bind, MP.Rv.get, MP.ORes.res, MP.ifM, MP.seqM, MP.notT, MP.truM, MP.cmpM, MP.binM, MP.andT, MP.orT, MP.ifE, MP.exprM, MP.nxM, MP.retN, MP.callM, MP.callKM, MP.kall, MP.argsE, MP.argE, MP.esc1, MP.rtR, MP.consA, MP.nilA, MP.biM, MP.getL, MP.arg1, MP.arg2, MP.asgM, MP.fzR, MP.stS, MP.nameG, MP.consG, MP.nilG, MP.tupG, MP.parM, MP.asgTM, MP.subG, MP.mutM, MP.escL, MP.lstM, MP.tupM, MP.ixM, MP.isNotD, MP.isD, MP.isNone, MP.lenD, MP.absD, MP.intD, MP.max2D, MP.min2D, MP.listD, MP.tupleD, MP.forM, MP.seqI, MP.itemsD, MP.enumI, MP.rng1I, MP.rng2I, MP.lockI, MP.lcM, MP.yesM, MP.restore, MP.hide, MP.chainM, MP.chainT, MP.pick, MP.Sl.get]) (by rw [show abc.cps.toList.length = 26 from by decide +kernel]; decide)
  have e2 := lcLoop_m (g := MP.nameG 9) (tt := MP.yesM) (te := E__law_words_3) (vs := [9]) (δ := WS l many found k (.fz (.str z)) s) (e := fun c : Nat => PyData.str ⟨#[c]⟩) (f := fun c => .str (qz z "z" c)) abc.cps.toList (by
    intro c hc
    simp [turnC, E__law_words_3, WS, slM, partM, slD, hz, addD, ha, hb, hz1, qz, cut6, MP.fin, MP.finR, MP.outI, MP.start0, MP.retM, MP.andE, MP.orE, MP.notE, MP.unM, MP.isiD, MP.tyD, MP.varM, MP.conM, MP.Res.bind, MP.Rv.get, MP.ORes.res, MP.ifM, MP.seqM, MP.notT, MP.truM, MP.cmpM, MP.binM, MP.andT, MP.orT, MP.ifE, MP.exprM, MP.nxM, MP.retN, MP.callM, MP.callKM, MP.kall, MP.argsE, MP.argE, MP.esc1, MP.rtR, MP.consA, MP.nilA, MP.biM, MP.getL, MP.arg1, MP.arg2, MP.asgM, MP.fzR, MP.stS, MP.nameG, MP.consG, MP.nilG, MP.tupG, MP.parM, MP.asgTM, MP.subG, MP.mutM, MP.escL, MP.lstM, MP.tupM, MP.ixM, MP.isNotD, MP.isD, MP.isNone, MP.lenD, MP.absD, MP.intD, MP.max2D, MP.min2D, MP.listD, MP.tupleD, MP.forM, MP.seqI, MP.itemsD, MP.enumI, MP.rng1I, MP.rng2I, MP.lockI, MP.lcM, MP.yesM, MP.restore, MP.hide, MP.chainM, MP.chainT, MP.pick, MP.Sl.get]) (by rw [show abc.cps.toList.length = 26 from by decide +kernel]; decide)
  have h26 : abc.cps.toList.length = 26 := by decide +kernel
  have h26b : abc.cps.size = 26 := by decide +kernel
  have l1 : 1 + 26 ≤ line := by decide
  have l2 : 26 + 1 + 26 ≤ line := by decide
  simp only [WS] at e1 e2 ⊢
  simp [e1, e2, addD, h26b, l1, l2, MP.fin, MP.finR, MP.outI, MP.start0, MP.retM, MP.andE, MP.orE, MP.notE, MP.unM, MP.isiD, MP.tyD, MP.varM, MP.conM, MP.Res.bind, MP.Rv.get, MP.ORes.res, MP.ifM, MP.seqM, MP.notT, MP.truM, MP.cmpM, MP.binM, MP.andT, MP.orT, MP.ifE, MP.exprM, MP.nxM, MP.retN, MP.callM, MP.callKM, MP.kall, MP.argsE, MP.argE, MP.esc1, MP.rtR, MP.consA, MP.nilA, MP.biM, MP.getL, MP.arg1, MP.arg2, MP.asgM, MP.fzR, MP.stS, MP.nameG, MP.consG, MP.nilG, MP.tupG, MP.parM, MP.asgTM, MP.subG, MP.mutM, MP.escL, MP.lstM, MP.tupM, MP.ixM, MP.isNotD, MP.isD, MP.isNone, MP.lenD, MP.absD, MP.intD, MP.max2D, MP.min2D, MP.listD, MP.tupleD, MP.forM, MP.seqI, MP.itemsD, MP.enumI, MP.rng1I, MP.rng2I, MP.lockI, MP.lcM, MP.yesM, MP.restore, MP.hide, MP.chainM, MP.chainT, MP.pick, MP.Sl.get]
  simp [someL, Function.comp_def]
theorem seqM_nx {a b : SM} {δ δ' : Dl} (h : a δ = .ok .nx δ') : seqM a b δ = b δ' := by
  unfold seqM; rw [h]
theorem turn_ok {l : List D} (hw : IsWell l) {many : Int} {found : List Str} {k w s : Sl} (hf : found.length < 26) : ∃ y z l' s', IsWell l' ∧ NmOk y ∧ y ∉ found ∧
    L__law_words_1 (WS l many found k w s) = .ok .nx (WS l' many (found ++ [y]) k (.fz (.str z)) s') := by
  obtain ⟨z, l', hw', haz, h1, h8, e1⟩ := word_ok hw (many := many) (found := found) (k := k) (w := w) (s := s)
  have e2 := some_ok (l := l') (many := many) (found := found) (k := k) (s := s) (z := z) h8
  have hlen : found.length + wordsL.length ≤ line := by
    have : wordsL.length = 41 := by decide +kernel
    rw [this]; unfold line; omega
  have e3 := lcLoop_if (g := MP.nameG 10) (tt := T__law_words_1) (te := E__law_words_1) (vs := [10]) (δ := WS l' many found k (.fz (.str z)) (.fz (.list ((someL z).map .str)))) (e := PyData.str) (p := fun y => !(found ++ wordsL).contains y) (f := PyData.str) (someL z) (by
    intro y hy
    have hany : ((found.map PyData.str ++ wordsL.map PyData.str).any fun d => PyData.eqv d (.str y)) = (found ++ wordsL).contains y := by
      rw [← List.map_append, List.any_map]
      rw [Bool.eq_iff_iff, List.contains_iff_mem, List.any_eq_true]
      simp only [Function.comp_apply, nm_eqv, beq_iff_eq]
      constructor
      · rintro ⟨x, hx, rfl⟩; exact hx
      · intro h; exact ⟨y, h, rfl⟩
    have hd : (PyData.str y).depth ≤ dep := by simp [PyData.depth, dep]
    have ein : notInD (.str y) (.list (found.map PyData.str ++ wordsL.map PyData.str)) = .v (.bool (!(found ++ wordsL).contains y)) := by
      simp only [notInD, inB, if_pos hd, hany]
    clear hany
    generalize (found ++ wordsL).contains y = b at ein ⊢
    cases b <;> simp [turnC, T__law_words_1, E__law_words_1, WS, addD, hlen, ein, MP.fin, MP.finR, MP.outI, MP.start0, MP.retM, MP.andE, MP.orE, MP.notE, MP.unM, MP.isiD, MP.tyD, MP.varM, MP.conM, MP.Res.bind, MP.Rv.get, MP.ORes.res, MP.ifM, MP.seqM, MP.notT, MP.truM, MP.cmpM, MP.binM, MP.andT, MP.orT, MP.ifE, MP.exprM, MP.nxM, MP.retN, MP.callM, MP.callKM, MP.kall, MP.argsE, MP.argE, MP.esc1, MP.rtR, MP.consA, MP.nilA, MP.biM, MP.getL, MP.arg1, MP.arg2, MP.asgM, MP.fzR, MP.stS, MP.nameG, MP.consG, MP.nilG, MP.tupG, MP.parM, MP.asgTM, MP.subG, MP.mutM, MP.escL, MP.lstM, MP.tupM, MP.ixM, MP.isNotD, MP.isD, MP.isNone, MP.lenD, MP.absD, MP.intD, MP.max2D, MP.min2D, MP.listD, MP.tupleD, MP.forM, MP.seqI, MP.itemsD, MP.enumI, MP.rng1I, MP.rng2I, MP.lockI, MP.lcM, MP.yesM, MP.restore, MP.hide, MP.chainM, MP.chainT, MP.pick, MP.Sl.get]) (by
      have : (someL z).length = 53 := by simp [someL]; decide +kernel
      rw [this]; decide)
  obtain ⟨y0, hy0, hn0⟩ := some_new (z := z) hf
  have hne : (someL z).filter (fun y => !(found ++ wordsL).contains y) ≠ [] := by
    intro h0
    rw [List.filter_eq_nil_iff] at h0
    exact h0 y0 hy0 (by simpa using hn0)
  obtain ⟨y, r, hyr⟩ := List.exists_cons_of_ne_nil hne
  have hy : y ∈ someL z ∧ y ∉ found ++ wordsL := by
    have : y ∈ (someL z).filter (fun y => !(found ++ wordsL).contains y) := by rw [hyr]; exact List.mem_cons_self
    rw [List.mem_filter] at this
    exact ⟨this.1, by simpa using this.2⟩
  rw [hyr] at e3
  obtain ⟨g1, g2⟩ := some_len h1 h8 hy.1
  refine ⟨y, z, l', .fz (.list ((someL z).map .str)), hw', ⟨g1, g2, some_az haz hy.1, fun h => hy.2 (List.mem_append.mpr (Or.inr h))⟩, fun h => hy.2 (List.mem_append.mpr (Or.inl h)), ?_⟩
  have hfl : found.length < line := by unfold line; omega
  unfold L__law_words_1
  have f1 : (asgM 6 (MP.metM "str" joinD (conM (.str "")) (consA (lcM [] (rng1I (binM addD (conM (.int 1)) (callM true noB R__law_dip [] (consA (varM 0) (consA (callM true noB R__law_one [] (consA (varM 0) (consA (lstM (consA (conM (.int 2)) (consA (conM (.int 3)) (consA (conM (.int 8)) nilA)))) nilA))) nilA))))) (nameG 7) yesM E__law_words_4 [7]) nilA))) (WS l many found k w s) = .ok .nx (WS l' many found k (.fz (.str z)) s) := by
    unfold asgM; rw [e1]; rfl
  have f2 : (asgM 8 (binM addD (binM addD (lstM (consA (varM 6) nilA)) (lcM [] (seqI (varM 2)) (nameG 9) yesM E__law_words_2 [9])) (lcM [] (seqI (varM 2)) (nameG 9) yesM E__law_words_3 [9]))) (WS l' many found k (.fz (.str z)) s) = .ok .nx (WS l' many found k (.fz (.str z)) (.ow ((someL z).map .str))) := by
    unfold asgM; rw [e2]; rfl
  have f3 : (exprM (mutM appendD 3 (consA (ixM (lcM [] (seqI (varM 8)) (nameG 10) T__law_words_1 E__law_words_1 [10]) (conM (.int 0))) nilA))) (WS l' many found k (.fz (.str z)) (.ow ((someL z).map .str))) = .ok .nx (WS l' many (found ++ [y]) k (.fz (.str z)) (.fz (.list ((someL z).map .str)))) := by
    simp only [WS] at e3 ⊢
    simp [e3, ixD, L2.atI, L2.ixN, appendD, hfl, MP.fin, MP.finR, MP.outI, MP.start0, MP.retM, MP.andE, MP.orE, MP.notE, MP.unM, MP.isiD, MP.tyD, MP.varM, MP.conM, MP.Res.bind, MP.Rv.get, MP.ORes.res, MP.ifM, MP.seqM, MP.notT, MP.truM, MP.cmpM, MP.binM, MP.andT, MP.orT, MP.ifE, MP.exprM, MP.nxM, MP.retN, MP.callM, MP.callKM, MP.kall, MP.argsE, MP.argE, MP.esc1, MP.rtR, MP.consA, MP.nilA, MP.biM, MP.getL, MP.arg1, MP.arg2, MP.asgM, MP.fzR, MP.stS, MP.nameG, MP.consG, MP.nilG, MP.tupG, MP.parM, MP.asgTM, MP.subG, MP.mutM, MP.escL, MP.lstM, MP.tupM, MP.ixM, MP.isNotD, MP.isD, MP.isNone, MP.lenD, MP.absD, MP.intD, MP.max2D, MP.min2D, MP.listD, MP.tupleD, MP.forM, MP.seqI, MP.itemsD, MP.enumI, MP.rng1I, MP.rng2I, MP.lockI, MP.lcM, MP.yesM, MP.restore, MP.hide, MP.chainM, MP.chainT, MP.pick, MP.Sl.get]
  rw [seqM_nx f1, seqM_nx f2, f3]
theorem words_loop : ∀ (n : Nat) (lo : Int) {l : List D} (hw : IsWell l) {many : Int} {found : List Str} {k w s : Sl}, found.length + n ≤ 20 → found.Nodup → (∀ y ∈ found, NmOk y) →
    ∃ found' l' k' w' s', IsWell l' ∧ found'.length = found.length + n ∧ found'.Nodup ∧ (∀ y ∈ found', NmOk y) ∧ MP.loopM (MP.nameG 5) L__law_words_1 (rangeL lo n) (WS l many found k w s) = .ok .nx (WS l' many found' k' w' s')
  | 0, lo, l, hw, many, found, k, w, s, _, hnd, hok => ⟨found, l, k, w, s, hw, rfl, hnd, hok, rfl⟩
  | n + 1, lo, l, hw, many, found, k, w, s, hl, hnd, hok => by
    obtain ⟨y, z, l', s', hw', hy, hyf, e⟩ := turn_ok hw (many := many) (k := .fz (.int lo)) (w := w) (s := s) (found := found) (by omega)
    obtain ⟨found', l2, k', w', s2, hw2, hlen, hnd2, hok2, e2⟩ := words_loop n (lo + 1) hw' (many := many) (found := found ++ [y]) (k := .fz (.int lo)) (w := .fz (.str z)) (s := s') (by simp; omega) (by
      rw [List.nodup_append]
      exact ⟨hnd, by simp, by intro a ha b hb; rintro rfl; simp at hb; subst hb; exact hyf ha⟩) (by
      intro x hx
      rcases List.mem_append.mp hx with h | h
      · exact hok x h
      · simp at h; subst h; exact hy)
    refine ⟨found', l2, k', w', s2, hw2, by simp at hlen; omega, hnd2, hok2, ?_⟩
    have hg : MP.nameG 5 (.int lo) (WS l many found k w s) = some (WS l many found (.fz (.int lo)) w s) := rfl
    rw [rangeL, loopM, hg]
    simp only [e]
    exact e2
end LW

set_option Elab.async false
set_option linter.all false
set_option maxRecDepth 100000
set_option maxHeartbeats 1000000
namespace LW
open PySem PySem.Spec PyProof.Rows L2 LamX NdefX MP
theorem law_words {l : List D} (hw : IsWell l) {many : Int} (h0 : 0 ≤ many) (h1 : many ≤ 20) : ∃ (m : List Str) (l' : List D), IsWell l' ∧ (m.length : Int) = many ∧ m.Pairwise SLt ∧ (∀ y ∈ m, NmOk y) ∧
    R__law_words [.ow l, .fz (.int many)] = .ok (.fz (.tuple (m.map .str))) (some l') := by
  obtain ⟨found, l', k', w', s', hw', hlen, hnd, hok, e⟩ := words_loop many.toNat 0 hw (many := many) (found := []) (k := .un) (w := .un) (s := .un) (by simp; omega) List.nodup_nil (by simp)
  obtain ⟨m, hm, hp, hpw⟩ := srt_strs hnd
  have hso : sortOk (found.map PyData.str) = true := by
    unfold sortOk
    simp only [Bool.and_eq_true, Bool.or_eq_true, List.all_eq_true, List.mem_map, decide_eq_true_eq, forall_exists_index, and_imp, forall_apply_eq_imp_iff₂]
    refine ⟨⟨⟨?_, Or.inr ?_⟩, ?_⟩, ?_⟩
    · intro a _ b _; simp [PySem.W.alike]
    · intro a _; rfl
    · intro a _; simp [PyData.depth, dep]
    · rw [List.length_map]; simp at hlen; unfold line; omega
  have hb : -4611686018427387904 ≤ many ∧ many < 4611686018427387904 := by omega
  refine ⟨m, l', hw', by have := hp.length_eq; simp at hlen; omega, hpw, fun y hy => hok y (hp.mem_iff.mp hy), ?_⟩
  have l1 : 13 + 13 ≤ line := by decide
  have l2 : 26 + 12 ≤ line := by decide
  have l3 : 38 + 3 ≤ line := by decide
  have hws : (wordsL.map PyData.str) = ([.str "above", .str "all", .str "any", .str "bears", .str "below", .str "broke", .str "by", .str "can", .str "crate", .str "day", .str "days", .str "goes", .str "guest"] : List D) ++ [.str "held", .str "holds", .str "in", .str "leaves", .str "lifts", .str "loads", .str "most", .str "no", .str "none", .str "of", .str "on", .str "out", .str "pull"] ++ [.str "put", .str "room", .str "rule", .str "shelf", .str "slip", .str "snow", .str "spare", .str "stack", .str "take", .str "tidy", .str "to", .str "top"] ++ [.str "weighs", .str "with", .str "yard"] := rfl
  simp only [List.cons_append, List.nil_append] at hws
  simp only [WS, List.map_nil, hws, abc] at e
  simp only [R__law_words, M__law_words, runF]
  simp [MP.parM, MP.rng1I, hb, addD, l1, l2, l3, e, sortD, hso, hm, MP.fin, MP.finR, MP.outI, MP.start0, MP.retM, MP.andE, MP.orE, MP.notE, MP.unM, MP.isiD, MP.tyD, MP.varM, MP.conM, MP.Res.bind, MP.Rv.get, MP.ORes.res, MP.ifM, MP.seqM, MP.notT, MP.truM, MP.cmpM, MP.binM, MP.andT, MP.orT, MP.ifE, MP.exprM, MP.nxM, MP.retN, MP.callM, MP.callKM, MP.kall, MP.argsE, MP.argE, MP.esc1, MP.rtR, MP.consA, MP.nilA, MP.biM, MP.getL, MP.arg1, MP.arg2, MP.asgM, MP.fzR, MP.stS, MP.nameG, MP.consG, MP.nilG, MP.tupG, MP.parM, MP.asgTM, MP.subG, MP.mutM, MP.escL, MP.lstM, MP.tupM, MP.ixM, MP.isNotD, MP.isD, MP.isNone, MP.lenD, MP.absD, MP.intD, MP.max2D, MP.min2D, MP.listD, MP.tupleD, MP.forM, MP.seqI, MP.itemsD, MP.enumI, MP.rng1I, MP.rng2I, MP.lockI, MP.lcM, MP.yesM, MP.restore, MP.hide, MP.chainM, MP.chainT, MP.pick, MP.Sl.get]
structure LotOk (l : List Cr) (n : Int) (w b : Int) : Prop where
  len : (l.length : Int) ≤ n
  ok : ∀ c ∈ l, c.Ok ∧ c.w ≤ w ∧ c.b < b
  asc : l.Pairwise fun c e => SLt c.n e.n
theorem pair3 {l : List D} (hw : IsWell l) : True := trivial
/-- the crates of a list of names -/
theorem crates_loop {hv fm : Int} (h1 : 3 ≤ hv ∧ hv ≤ 30) (h2 : 4 ≤ fm ∧ fm ≤ 60) {most : Int} {ns : List Str} (hns : ns.length ≤ 20) (hok : ∀ y ∈ ns, NmOk y) {l : List D} (hw : IsWell l) :
    ∃ (cs : List Cr) (l' : List D), IsWell l' ∧ cs.map Cr.n = ns ∧ (∀ c ∈ cs, c.Ok ∧ c.w ≤ hv ∧ c.b < fm) ∧
      MP.lcLoop (MP.nameG 5) MP.yesM E__law_lot_1 [5] (ns.map .str) [] [.ow l, .fz (.int most), .fz (.int hv), .fz (.int fm), .fz (.tuple (ns.map .str)), .un] = .ok (cs.map Cr.d) [.ow l', .fz (.int most), .fz (.int hv), .fz (.int fm), .fz (.tuple (ns.map .str)), .un] := by
  generalize hX : (Sl.fz (PyData.tuple (ns.map .str))) = X
  clear hX
  suffices H : ∀ (ns : List Str) (acc : List D) (l : List D), acc.length + ns.length ≤ 20 → (∀ y ∈ ns, NmOk y) → IsWell l → ∃ (cs : List Cr) (l' : List D), IsWell l' ∧ cs.map Cr.n = ns ∧ (∀ c ∈ cs, c.Ok ∧ c.w ≤ hv ∧ c.b < fm) ∧
      MP.lcLoop (MP.nameG 5) MP.yesM E__law_lot_1 [5] (ns.map .str) acc [.ow l, .fz (.int most), .fz (.int hv), .fz (.int fm), X, .un] = .ok (acc ++ cs.map Cr.d) [.ow l', .fz (.int most), .fz (.int hv), .fz (.int fm), X, .un] by
    simpa using H ns [] l (by simpa using hns) hok hw
  intro ns
  induction ns with
  | nil => intro acc l _ _ hw; exact ⟨[], l, hw, rfl, by simp, by simp [lcLoop]⟩
  | cons y ns ih =>
    intro acc l hl hok hw
    obtain ⟨r1, l1, a1, b1, hw1, e1⟩ := dip_ok (m := hv) hw ⟨by omega, by omega⟩
    obtain ⟨r2, l2, a2, b2, hw2, e2⟩ := dip_ok (m := fm) hw1 ⟨by omega, by omega⟩
    simp only [List.length_cons] at hl
    obtain ⟨cs, l', hw', hm, hcs, e⟩ := ih (acc ++ [Cr.d ⟨y, 1 + r1, r2⟩]) l2 (by simp; omega) (fun y hy => hok y (List.mem_cons_of_mem _ hy)) hw2
    refine ⟨⟨y, 1 + r1, r2⟩ :: cs, l', hw', by simp [hm], ?_, ?_⟩
    · intro c hc
      rcases List.mem_cons.mp hc with rfl | hc
      · exact ⟨⟨hok y List.mem_cons_self, by simp; omega, by simp; omega, by simpa using a2, by simp; omega⟩, by simp; omega, by simpa using b2⟩
      · exact hcs c hc
    · have ht : turnC (MP.nameG 5) MP.yesM E__law_lot_1 [5] (.str y) [.ow l, .fz (.int most), .fz (.int hv), .fz (.int fm), X, .un] = some (some (Cr.d ⟨y, 1 + r1, r2⟩), [.ow l2, .fz (.int most), .fz (.int hv), .fz (.int fm), X, .un]) := by
        simp [turnC, E__law_lot_1, e1, e2, Cr.d, MP.fin, MP.finR, MP.outI, MP.start0, MP.retM, MP.andE, MP.orE, MP.notE, MP.unM, MP.isiD, MP.tyD, MP.varM, MP.conM, MP.Res.bind, MP.Rv.get, MP.ORes.res, MP.ifM, MP.seqM, MP.notT, MP.truM, MP.cmpM, MP.binM, MP.andT, MP.orT, MP.ifE, MP.exprM, MP.nxM, MP.retN, MP.callM, MP.callKM, MP.kall, MP.argsE, MP.argE, MP.esc1, MP.rtR, MP.consA, MP.nilA, MP.biM, MP.getL, MP.arg1, MP.arg2, MP.asgM, MP.fzR, MP.stS, MP.nameG, MP.consG, MP.nilG, MP.tupG, MP.parM, MP.asgTM, MP.subG, MP.mutM, MP.escL, MP.lstM, MP.tupM, MP.ixM, MP.isNotD, MP.isD, MP.isNone, MP.lenD, MP.absD, MP.intD, MP.max2D, MP.min2D, MP.listD, MP.tupleD, MP.forM, MP.seqI, MP.itemsD, MP.enumI, MP.rng1I, MP.rng2I, MP.lockI, MP.lcM, MP.yesM, MP.restore, MP.hide, MP.chainM, MP.chainT, MP.pick, MP.Sl.get]
      rw [List.map_cons, lcLoop_step ht (by unfold line; omega)]
      simpa using e
theorem law_lot {l : List D} (hw : IsWell l) {most : Int} (h0 : 0 ≤ most) (h1 : most ≤ 10) : ∃ (cs : List Cr) (l' : List D), IsWell l' ∧ LotOk cs most 30 60 ∧
    R__law_lot [.ow l, .fz (.int most)] = .ok (.fz (lotD cs)) (some l') := by
  obtain ⟨d1, l1, hd1, hw1, e1⟩ := one_list (some_ := [.int 3, .int 9, .int 9, .int 30]) hw (by simp) (by simp)
  obtain ⟨hv, rfl, hh⟩ : ∃ m : Int, d1 = .int m ∧ (3 ≤ m ∧ m ≤ 30) := by
    simp at hd1
    rcases hd1 with rfl | rfl | rfl <;> exact ⟨_, rfl, by decide⟩
  obtain ⟨d2, l2, hd2, hw2, e2⟩ := one_list (some_ := [.int 4, .int 12, .int 20, .int 60]) hw1 (by simp) (by simp)
  obtain ⟨fm, rfl, hf⟩ : ∃ m : Int, d2 = .int m ∧ (4 ≤ m ∧ m ≤ 60) := by
    simp at hd2
    rcases hd2 with rfl | rfl | rfl | rfl <;> exact ⟨_, rfl, by decide⟩
  obtain ⟨r, l3, a3, b3, hw3, e3⟩ := dip_ok (m := most + 1) hw2 ⟨by omega, by omega⟩
  obtain ⟨ns, l4, hw4, hlen, hpw, hok, e4⟩ := law_words hw3 a3 (by omega)
  obtain ⟨cs, l5, hw5, hm, hcs, e5⟩ := crates_loop hh hf (most := most) (ns := ns) (by omega) hok hw4
  refine ⟨cs, l5, hw5, ⟨?_, ?_, ?_⟩, ?_⟩
  · have : cs.length = ns.length := by rw [← hm]; simp
    omega
  · intro c hc
    obtain ⟨g1, g2, g3⟩ := hcs c hc
    exact ⟨g1, by omega, by omega⟩
  · rw [← hm, List.pairwise_map] at hpw; exact hpw
  · simp [R__law_lot, M__law_lot, runF, MP.parM, e1, e2, e3, e4, e5, lotD, MP.fin, MP.finR, MP.outI, MP.start0, MP.retM, MP.andE, MP.orE, MP.notE, MP.unM, MP.isiD, MP.tyD, MP.varM, MP.conM, MP.Res.bind, MP.Rv.get, MP.ORes.res, MP.ifM, MP.seqM, MP.notT, MP.truM, MP.cmpM, MP.binM, MP.andT, MP.orT, MP.ifE, MP.exprM, MP.nxM, MP.retN, MP.callM, MP.callKM, MP.kall, MP.argsE, MP.argE, MP.esc1, MP.rtR, MP.consA, MP.nilA, MP.biM, MP.getL, MP.arg1, MP.arg2, MP.asgM, MP.fzR, MP.stS, MP.nameG, MP.consG, MP.nilG, MP.tupG, MP.parM, MP.asgTM, MP.subG, MP.mutM, MP.escL, MP.lstM, MP.tupM, MP.ixM, MP.isNotD, MP.isD, MP.isNone, MP.lenD, MP.absD, MP.intD, MP.max2D, MP.min2D, MP.listD, MP.tupleD, MP.forM, MP.seqI, MP.itemsD, MP.enumI, MP.rng1I, MP.rng2I, MP.lockI, MP.lcM, MP.yesM, MP.restore, MP.hide, MP.chainM, MP.chainT, MP.pick, MP.Sl.get]
end LW

set_option Elab.async false
set_option linter.all false
set_option maxRecDepth 100000
set_option maxHeartbeats 1000000
namespace LW
open PySem PySem.Spec PyProof.Rows L2 LamX NdefX MP
theorem ltD_ss (a b : Str) : ltD (.str a) (.str b) = .v (.bool (decide (a.cps.toList < b.cps.toList))) := by
  have : cmpOk (.str a) (.str b) = true := by simp [cmpOk, PySem.W.alike, PyData.depth, dep]
  simp [ltD, this, PySem.W.dataLt_str]
theorem eqD_tt0 (l : List D) : eqD (.tuple l) (.tuple []) = .v (.bool l.isEmpty) := by
  have : min (PyData.tuple l).depth (PyData.tuple []).depth ≤ dep := by
    have : (PyData.tuple []).depth ≤ dep := by decide
    omega
  simp [eqD, this, PyData.eqv, eqvAll_nil]
theorem in_t0 {d : D} (h : d.depth ≤ dep) : inD d (.tuple []) = .v (.bool false) := by simp [inD, inB, h]
theorem last_at {l : List Cr} {c : Cr} : L2.atI ((l ++ [c]).map Cr.d) (-1) = some c.d := by
  have h1 : (1 : Int) ≤ (l.length : Int) + 1 := by omega
  have h2 : (-1 + ((l.length : Int) + 1)).toNat = l.length := by omega
  unfold L2.atI L2.ixN
  simp [h1, h2]
theorem is_right_ok {pre : List Cr} {c : Cr} (hc : c.Ok) (hp : ∀ e ∈ pre, SLt e.n c.n) : runN 3 M_is_right [.fz (.tuple [])] [c.d, .tuple (pre.map Cr.d)] = .ok (.bool true) := by
  have hd : (PyData.str c.n).depth ≤ dep := by simp [PyData.depth, dep]
  have hx : L2.atI [PyData.str c.n, .int c.w, .int c.b] 0 = some (.str c.n) := rfl
  have hf := crate_form hc
  simp only [Cr.d] at hf
  rcases List.eq_nil_or_concat pre with rfl | ⟨p, e, rfl⟩
  · simp [MP.runN, MP.toRc, M_is_right, runF, Cr.d, hf, ixD, hx, in_t0 hd, eqD_tt0, MP.fin, MP.finR, MP.outI, MP.start0, MP.retM, MP.andE, MP.orE, MP.notE, MP.unM, MP.isiD, MP.tyD, MP.varM, MP.conM, MP.Res.bind, MP.Rv.get, MP.ORes.res, MP.ifM, MP.seqM, MP.notT, MP.truM, MP.cmpM, MP.binM, MP.andT, MP.orT, MP.ifE, MP.exprM, MP.nxM, MP.retN, MP.callM, MP.callKM, MP.kall, MP.argsE, MP.argE, MP.esc1, MP.rtR, MP.consA, MP.nilA, MP.biM, MP.getL, MP.arg1, MP.arg2, MP.asgM, MP.fzR, MP.stS, MP.nameG, MP.consG, MP.nilG, MP.tupG, MP.parM, MP.asgTM, MP.subG, MP.mutM, MP.escL, MP.lstM, MP.tupM, MP.ixM, MP.isNotD, MP.isD, MP.isNone, MP.lenD, MP.absD, MP.intD, MP.max2D, MP.min2D, MP.listD, MP.tupleD, MP.forM, MP.seqI, MP.itemsD, MP.enumI, MP.rng1I, MP.rng2I, MP.lockI, MP.lcM, MP.yesM, MP.restore, MP.hide, MP.chainM, MP.chainT, MP.pick, MP.Sl.get]
  · have hl : L2.atI (p.map Cr.d ++ [PyData.tuple [.str e.n, .int e.w, .int e.b]]) (-1) = some (.tuple [.str e.n, .int e.w, .int e.b]) := by
      have := last_at (l := p) (c := e)
      rwa [List.map_append, List.map_singleton] at this
    have hem : (p.map Cr.d ++ [PyData.tuple [.str e.n, .int e.w, .int e.b]]).isEmpty = false := by
      cases p <;> rfl
    have he : SLt e.n c.n := hp e (by simp)
    unfold SLt at he
    have hx2 : L2.atI [PyData.str e.n, .int e.w, .int e.b] 0 = some (.str e.n) := rfl
    simp [hem, MP.runN, MP.toRc, M_is_right, runF, Cr.d, hf, ixD, hx, hx2, hl, in_t0 hd, eqD_tt0, negD, ltD_ss, he, MP.fin, MP.finR, MP.outI, MP.start0, MP.retM, MP.andE, MP.orE, MP.notE, MP.unM, MP.isiD, MP.tyD, MP.varM, MP.conM, MP.Res.bind, MP.Rv.get, MP.ORes.res, MP.ifM, MP.seqM, MP.notT, MP.truM, MP.cmpM, MP.binM, MP.andT, MP.orT, MP.ifE, MP.exprM, MP.nxM, MP.retN, MP.callM, MP.callKM, MP.kall, MP.argsE, MP.argE, MP.esc1, MP.rtR, MP.consA, MP.nilA, MP.biM, MP.getL, MP.arg1, MP.arg2, MP.asgM, MP.fzR, MP.stS, MP.nameG, MP.consG, MP.nilG, MP.tupG, MP.parM, MP.asgTM, MP.subG, MP.mutM, MP.escL, MP.lstM, MP.tupM, MP.ixM, MP.isNotD, MP.isD, MP.isNone, MP.lenD, MP.absD, MP.intD, MP.max2D, MP.min2D, MP.listD, MP.tupleD, MP.forM, MP.seqI, MP.itemsD, MP.enumI, MP.rng1I, MP.rng2I, MP.lockI, MP.lcM, MP.yesM, MP.restore, MP.hide, MP.chainM, MP.chainT, MP.pick, MP.Sl.get]
def clo0 : List D → Rc := fun ds => if ds.length = 2 then runN 3 M_is_right [.fz (.tuple [])] ds else .bad
theorem wrong_loop {l : List Cr} (hl : l.length ≤ 7) (hok : ∀ c ∈ l, c.Ok) (ha : l.Pairwise fun c e => SLt c.n e.n) : ∀ (post pre : List Cr), pre ++ post = l → ∀ x y : Sl, ∃ x' y',
    MP.loopM (tupG 2 (consG (nameG 3) (consG (nameG 4) nilG))) L_wrong_at_1 (enumL pre.length (post.map Cr.d)) [.fz (lotD l), .fz (.int 7), .cl clo0, x, y] = .ok .nx [.fz (lotD l), .fz (.int 7), .cl clo0, x', y']
  | [], pre, _, x, y => ⟨x, y, rfl⟩
  | c :: post, pre, h, x, y => by
    obtain ⟨x', y', ih⟩ := wrong_loop hl hok ha post (pre ++ [c]) (by simpa using h) (.fz (.int pre.length)) (.fz c.d)
    refine ⟨x', y', ?_⟩
    have hr := is_right_ok (pre := pre) (c := c) (hok c (by rw [← h]; simp)) (by
      intro e he
      rw [← h, List.pairwise_append] at ha
      exact ha.2.2 e he c List.mem_cons_self)
    have hlen : pre.length < 7 := by rw [← h] at hl; simp at hl; omega
    have hcut : MP.cutD (l.map Cr.d) none (some (pre.length : Int)) = pre.map Cr.d := by
      unfold MP.cutD
      rw [HT.sIx_none, HT.sIx_nat, ← h]
      simp
    have hne : ¬ ((pre.length : Int) = 7) := by omega
    have hb : L_wrong_at_1 [.fz (lotD l), .fz (.int 7), .cl clo0, .fz (.int pre.length), .fz c.d] = .ok .nx [.fz (lotD l), .fz (.int 7), .cl clo0, .fz (.int pre.length), .fz c.d] := by
      simp [L_wrong_at_1, hne, MP.cloM, MP.escL, slM, partM, slD, lotD, hcut, clo0, hr, MP.fin, MP.finR, MP.outI, MP.start0, MP.retM, MP.andE, MP.orE, MP.notE, MP.unM, MP.isiD, MP.tyD, MP.varM, MP.conM, MP.Res.bind, MP.Rv.get, MP.ORes.res, MP.ifM, MP.seqM, MP.notT, MP.truM, MP.cmpM, MP.binM, MP.andT, MP.orT, MP.ifE, MP.exprM, MP.nxM, MP.retN, MP.callM, MP.callKM, MP.kall, MP.argsE, MP.argE, MP.esc1, MP.rtR, MP.consA, MP.nilA, MP.biM, MP.getL, MP.arg1, MP.arg2, MP.asgM, MP.fzR, MP.stS, MP.nameG, MP.consG, MP.nilG, MP.tupG, MP.parM, MP.asgTM, MP.subG, MP.mutM, MP.escL, MP.lstM, MP.tupM, MP.ixM, MP.isNotD, MP.isD, MP.isNone, MP.lenD, MP.absD, MP.intD, MP.max2D, MP.min2D, MP.listD, MP.tupleD, MP.forM, MP.seqI, MP.itemsD, MP.enumI, MP.rng1I, MP.rng2I, MP.lockI, MP.lcM, MP.yesM, MP.restore, MP.hide, MP.chainM, MP.chainT, MP.pick, MP.Sl.get]
    have hg : tupG 2 (consG (nameG 3) (consG (nameG 4) nilG)) (.tuple [.int pre.length, c.d]) [.fz (lotD l), .fz (.int 7), .cl clo0, x, y] = some [.fz (lotD l), .fz (.int 7), .cl clo0, .fz (.int pre.length), .fz c.d] := rfl
    rw [List.map_cons, enumL, loopM, hg]
    simp only [hb]
    simpa using ih
theorem wrong_lot_ok {l : List Cr} (hl : l.length ≤ 7) (hok : ∀ c ∈ l, c.Ok) (ha : l.Pairwise fun c e => SLt c.n e.n) : R_wrong_lot [.fz (lotD l), .fz (.tuple [])] = .ok (.ow []) none := by
  obtain ⟨x, y, e⟩ := wrong_loop hl hok ha l [] rfl .un .un
  have ew : R_wrong_at [.fz (lotD l), .fz (.int 7), .cl clo0] = .ok (.ow []) none := by
    simp only [lotD, List.length_nil] at e
    simp [R_wrong_at, M_wrong_at, runF, MP.enumI, lotD, e, MP.fin, MP.finR, MP.outI, MP.start0, MP.retM, MP.andE, MP.orE, MP.notE, MP.unM, MP.isiD, MP.tyD, MP.varM, MP.conM, MP.Res.bind, MP.Rv.get, MP.ORes.res, MP.ifM, MP.seqM, MP.notT, MP.truM, MP.cmpM, MP.binM, MP.andT, MP.orT, MP.ifE, MP.exprM, MP.nxM, MP.retN, MP.callM, MP.callKM, MP.kall, MP.argsE, MP.argE, MP.esc1, MP.rtR, MP.consA, MP.nilA, MP.biM, MP.getL, MP.arg1, MP.arg2, MP.asgM, MP.fzR, MP.stS, MP.nameG, MP.consG, MP.nilG, MP.tupG, MP.parM, MP.asgTM, MP.subG, MP.mutM, MP.escL, MP.lstM, MP.tupM, MP.ixM, MP.isNotD, MP.isD, MP.isNone, MP.lenD, MP.absD, MP.intD, MP.max2D, MP.min2D, MP.listD, MP.tupleD, MP.forM, MP.seqI, MP.itemsD, MP.enumI, MP.rng1I, MP.rng2I, MP.lockI, MP.lcM, MP.yesM, MP.restore, MP.hide, MP.chainM, MP.chainT, MP.pick, MP.Sl.get]
  have hnb : nb_wrong_lot 0 [.fz (lotD l), .fz (.tuple []), .nd 0] = some clo0 := rfl
  simp only [lotD] at ew hnb
  simp [R_wrong_lot, M_wrong_lot, runF, MP.ndefM, C_MOST_CRATES, hnb, ew, lotD, MP.fin, MP.finR, MP.outI, MP.start0, MP.retM, MP.andE, MP.orE, MP.notE, MP.unM, MP.isiD, MP.tyD, MP.varM, MP.conM, MP.Res.bind, MP.Rv.get, MP.ORes.res, MP.ifM, MP.seqM, MP.notT, MP.truM, MP.cmpM, MP.binM, MP.andT, MP.orT, MP.ifE, MP.exprM, MP.nxM, MP.retN, MP.callM, MP.callKM, MP.kall, MP.argsE, MP.argE, MP.esc1, MP.rtR, MP.consA, MP.nilA, MP.biM, MP.getL, MP.arg1, MP.arg2, MP.asgM, MP.fzR, MP.stS, MP.nameG, MP.consG, MP.nilG, MP.tupG, MP.parM, MP.asgTM, MP.subG, MP.mutM, MP.escL, MP.lstM, MP.tupM, MP.ixM, MP.isNotD, MP.isD, MP.isNone, MP.lenD, MP.absD, MP.intD, MP.max2D, MP.min2D, MP.listD, MP.tupleD, MP.forM, MP.seqI, MP.itemsD, MP.enumI, MP.rng1I, MP.rng2I, MP.lockI, MP.lcM, MP.yesM, MP.restore, MP.hide, MP.chainM, MP.chainT, MP.pick, MP.Sl.get]
theorem check_lot_ok {l : List Cr} (hl : l.length ≤ 7) (hok : ∀ c ∈ l, c.Ok) (ha : l.Pairwise fun c e => SLt c.n e.n) : R_check_lot [.fz (lotD l)] = .ok (.fz .none) none := by
  have e := wrong_lot_ok hl hok ha
  have hn : neD (.list []) (.list []) = .v (.bool false) := by rfl
  simp [R_check_lot, M_check_lot, runF, e, hn, MP.fin, MP.finR, MP.outI, MP.start0, MP.retM, MP.andE, MP.orE, MP.notE, MP.unM, MP.isiD, MP.tyD, MP.varM, MP.conM, MP.Res.bind, MP.Rv.get, MP.ORes.res, MP.ifM, MP.seqM, MP.notT, MP.truM, MP.cmpM, MP.binM, MP.andT, MP.orT, MP.ifE, MP.exprM, MP.nxM, MP.retN, MP.callM, MP.callKM, MP.kall, MP.argsE, MP.argE, MP.esc1, MP.rtR, MP.consA, MP.nilA, MP.biM, MP.getL, MP.arg1, MP.arg2, MP.asgM, MP.fzR, MP.stS, MP.nameG, MP.consG, MP.nilG, MP.tupG, MP.parM, MP.asgTM, MP.subG, MP.mutM, MP.escL, MP.lstM, MP.tupM, MP.ixM, MP.isNotD, MP.isD, MP.isNone, MP.lenD, MP.absD, MP.intD, MP.max2D, MP.min2D, MP.listD, MP.tupleD, MP.forM, MP.seqI, MP.itemsD, MP.enumI, MP.rng1I, MP.rng2I, MP.lockI, MP.lcM, MP.yesM, MP.restore, MP.hide, MP.chainM, MP.chainT, MP.pick, MP.Sl.get]
theorem standing_ok {l : List Cr} (hl : l.length ≤ 7) (hok : ∀ c ∈ l, c.Ok) (ha : l.Pairwise fun c e => SLt c.n e.n) {c : Cr} (hc : c.Ok) :
    R_standing_in [.fz (lotD l), .fz c.d] = .ok (.fz (.tuple ((l.filter fun e => decide (e.w ≤ c.w ∧ c.b ≤ e.b)).map fun e => .str e.n))) none := by
  have e := lcLoop_if (g := MP.nameG 2) (tt := T_standing_in_1) (te := E_standing_in_1) (vs := [2]) (δ := [.fz (lotD l), .fz c.d, .un]) (e := Cr.d) (p := fun e => decide (e.w ≤ c.w ∧ c.b ≤ e.b)) (f := fun e => .str e.n) l (by
    intro a ha
    have hdf := does_for a c
    have hx : L2.atI [PyData.str a.n, .int a.w, .int a.b] 0 = some (.str a.n) := rfl
    by_cases h : a.w ≤ c.w ∧ c.b ≤ a.b
    · simp only [h, and_self, decide_true] at hdf
      simp [turnC, T_standing_in_1, E_standing_in_1, hdf, h, ixD, Cr.d, hx, MP.fin, MP.finR, MP.outI, MP.start0, MP.retM, MP.andE, MP.orE, MP.notE, MP.unM, MP.isiD, MP.tyD, MP.varM, MP.conM, MP.Res.bind, MP.Rv.get, MP.ORes.res, MP.ifM, MP.seqM, MP.notT, MP.truM, MP.cmpM, MP.binM, MP.andT, MP.orT, MP.ifE, MP.exprM, MP.nxM, MP.retN, MP.callM, MP.callKM, MP.kall, MP.argsE, MP.argE, MP.esc1, MP.rtR, MP.consA, MP.nilA, MP.biM, MP.getL, MP.arg1, MP.arg2, MP.asgM, MP.fzR, MP.stS, MP.nameG, MP.consG, MP.nilG, MP.tupG, MP.parM, MP.asgTM, MP.subG, MP.mutM, MP.escL, MP.lstM, MP.tupM, MP.ixM, MP.isNotD, MP.isD, MP.isNone, MP.lenD, MP.absD, MP.intD, MP.max2D, MP.min2D, MP.listD, MP.tupleD, MP.forM, MP.seqI, MP.itemsD, MP.enumI, MP.rng1I, MP.rng2I, MP.lockI, MP.lcM, MP.yesM, MP.restore, MP.hide, MP.chainM, MP.chainT, MP.pick, MP.Sl.get]
      simp only [Cr.d] at hdf
      simp [hdf, hx]
    · simp only [h, decide_false] at hdf
      simp only [Cr.d] at hdf
      simp [turnC, T_standing_in_1, E_standing_in_1, hdf, h, ixD, Cr.d, hx, MP.fin, MP.finR, MP.outI, MP.start0, MP.retM, MP.andE, MP.orE, MP.notE, MP.unM, MP.isiD, MP.tyD, MP.varM, MP.conM, MP.Res.bind, MP.Rv.get, MP.ORes.res, MP.ifM, MP.seqM, MP.notT, MP.truM, MP.cmpM, MP.binM, MP.andT, MP.orT, MP.ifE, MP.exprM, MP.nxM, MP.retN, MP.callM, MP.callKM, MP.kall, MP.argsE, MP.argE, MP.esc1, MP.rtR, MP.consA, MP.nilA, MP.biM, MP.getL, MP.arg1, MP.arg2, MP.asgM, MP.fzR, MP.stS, MP.nameG, MP.consG, MP.nilG, MP.tupG, MP.parM, MP.asgTM, MP.subG, MP.mutM, MP.escL, MP.lstM, MP.tupM, MP.ixM, MP.isNotD, MP.isD, MP.isNone, MP.lenD, MP.absD, MP.intD, MP.max2D, MP.min2D, MP.listD, MP.tupleD, MP.forM, MP.seqI, MP.itemsD, MP.enumI, MP.rng1I, MP.rng2I, MP.lockI, MP.lcM, MP.yesM, MP.restore, MP.hide, MP.chainM, MP.chainT, MP.pick, MP.Sl.get]) (by unfold line; omega)
  have h1 := check_lot_ok hl hok ha
  have h2 := check_crate hc
  simp only [lotD] at e h1 ⊢
  simp [R_standing_in, M_standing_in, runF, h1, h2, e, MP.fin, MP.finR, MP.outI, MP.start0, MP.retM, MP.andE, MP.orE, MP.notE, MP.unM, MP.isiD, MP.tyD, MP.varM, MP.conM, MP.Res.bind, MP.Rv.get, MP.ORes.res, MP.ifM, MP.seqM, MP.notT, MP.truM, MP.cmpM, MP.binM, MP.andT, MP.orT, MP.ifE, MP.exprM, MP.nxM, MP.retN, MP.callM, MP.callKM, MP.kall, MP.argsE, MP.argE, MP.esc1, MP.rtR, MP.consA, MP.nilA, MP.biM, MP.getL, MP.arg1, MP.arg2, MP.asgM, MP.fzR, MP.stS, MP.nameG, MP.consG, MP.nilG, MP.tupG, MP.parM, MP.asgTM, MP.subG, MP.mutM, MP.escL, MP.lstM, MP.tupM, MP.ixM, MP.isNotD, MP.isD, MP.isNone, MP.lenD, MP.absD, MP.intD, MP.max2D, MP.min2D, MP.listD, MP.tupleD, MP.forM, MP.seqI, MP.itemsD, MP.enumI, MP.rng1I, MP.rng2I, MP.lockI, MP.lcM, MP.yesM, MP.restore, MP.hide, MP.chainM, MP.chainT, MP.pick, MP.Sl.get]
end LW

set_option Elab.async false
set_option linter.all false
set_option maxRecDepth 100000
set_option maxHeartbeats 1000000
namespace LW
open PySem PySem.Spec PyProof.Rows L2 LamX NdefX MP
theorem names_all : ∀ {ns : List Str}, (∀ y ∈ ns, NmOk y) → PyData.canLayAll0 (ns.map .str) = true ∧ PyData.weightAll (ns.map .str) ≤ 9 * ns.length ∧ PyData.intsShortAll 13 (ns.map .str) = true ∧ PyData.showableAll (ns.map .str) = true ∧ PyData.depthAll (ns.map .str) ≤ 1
  | [], _ => by simp [PyData.canLayAll0, PyData.weightAll, PyData.intsShortAll, PyData.showableAll, PyData.depthAll]
  | y :: ns, h => by
    obtain ⟨a1, a2, a3, a4, a5⟩ := names_all (ns := ns) fun y hy => h y (List.mem_cons_of_mem _ hy)
    have hy := h y List.mem_cons_self
    have hok : PyData.canLay0 (.str y) = true := by
      simp only [PyData.canLay0, PyData.strOk, Array.all_eq_true_iff_forall_mem, decide_eq_true_eq]
      intro c hc
      have := hy.az c (by simpa using hc)
      omega
    have hw : PyData.weight (.str y) ≤ 8 := by have := hy.hi; simpa [PyData.weight, Str.length] using this
    simp only [List.map_cons, PyData.canLayAll0, PyData.weightAll, PyData.intsShortAll, PyData.showableAll, PyData.depthAll, hok, a1, a3, a4, PyData.intsShort, PyData.showable, PyData.depth, Bool.and_self, List.length_cons, true_and, and_true]
    constructor
    · omega
    · omega
theorem repr_names {ns : List Str} (hl : ns.length ≤ 7) (h : ∀ y ∈ ns, NmOk y) : reprD (.list [.tuple (ns.map .str), .tuple (ns.map .str)]) = .v (.str (PyData.list [.tuple (ns.map .str), .tuple (ns.map .str)]).shown) := by
  obtain ⟨a1, a2, a3, a4, a5⟩ := names_all h
  have hs : (PyData.list [.tuple (ns.map .str), .tuple (ns.map .str)]).showable = true := by simp [PyData.showable, PyData.showableAll, a4]
  have hd : (PyData.list [.tuple (ns.map .str), .tuple (ns.map .str)]).depth ≤ 3 := by simp [PyData.depth, PyData.depthAll]; omega
  have hlay : PyData.layable0 (PyData.list [.tuple (ns.map .str), .tuple (ns.map .str)]) = true := by
    have hw : (PyData.list [.tuple (ns.map .str), .tuple (ns.map .str)]).weight ≤ 1000 := by simp [PyData.weight, PyData.weightAll]; omega
    simp only [PyData.layable0, Bool.and_eq_true, decide_eq_true_eq]
    refine ⟨⟨by simp [PyData.canLay0, PyData.canLayAll0, a1], by omega⟩, by omega⟩
  have hlen := PyProof.Rows.shown_le13 hlay (by simp [PyData.intsShort, PyData.intsShortAll, a3])
  simp only [reprD]
  rw [if_pos ⟨hs, by unfold dep; omega, by unfold line; omega⟩]
theorem repr_bools (a : Bool) : reprD (.list [.bool a, .bool a]) = .v (.str (PyData.list [.bool a, .bool a]).shown) := by
  cases a <;> rfl
theorem ne_self (s : Str) : neD (.str s) (.str s) = .v (.bool false) := by
  have : (PyData.str s).depth ≤ dep := by simp [PyData.depth, dep]
  simp [neD, this, PyData.eqv]
theorem neD_bb (a b : Bool) : neD (.bool a) (.bool b) = .v (.bool (a != b)) := by cases a <;> cases b <;> rfl
theorem law_num (i lo hi : Int) (h : lo ≤ i ∧ i ≤ hi) : R__law_is_number [.fz (.int i), .fz (.int lo), .fz (.int hi)] = .ok (.fz (.bool true)) none := by
  simp [R__law_is_number, M__law_is_number, runF, h, MP.fin, MP.finR, MP.outI, MP.start0, MP.retM, MP.andE, MP.orE, MP.notE, MP.unM, MP.isiD, MP.tyD, MP.varM, MP.conM, MP.Res.bind, MP.Rv.get, MP.ORes.res, MP.ifM, MP.seqM, MP.notT, MP.truM, MP.cmpM, MP.binM, MP.andT, MP.orT, MP.ifE, MP.exprM, MP.nxM, MP.retN, MP.callM, MP.callKM, MP.kall, MP.argsE, MP.argE, MP.esc1, MP.rtR, MP.consA, MP.nilA, MP.biM, MP.getL, MP.arg1, MP.arg2, MP.asgM, MP.fzR, MP.stS, MP.nameG, MP.consG, MP.nilG, MP.tupG, MP.parM, MP.asgTM, MP.subG, MP.mutM, MP.escL, MP.lstM, MP.tupM, MP.ixM, MP.isNotD, MP.isD, MP.isNone, MP.lenD, MP.absD, MP.intD, MP.max2D, MP.min2D, MP.listD, MP.tupleD, MP.forM, MP.seqI, MP.itemsD, MP.enumI, MP.rng1I, MP.rng2I, MP.lockI, MP.lcM, MP.yesM, MP.restore, MP.hide, MP.chainM, MP.chainT, MP.pick, MP.Sl.get]
theorem law_crate {l : List D} (hw : IsWell l) (n : Str) : ∃ (a b : Int) (l' : List D), IsWell l' ∧ 1 ≤ a ∧ a ≤ 9 ∧ 0 ≤ b ∧ b ≤ 11 ∧ R__law_crate [.ow l, .fz (.str n)] = .ok (.fz (Cr.d ⟨n, a, b⟩)) (some l') := by
  obtain ⟨r1, l1, a1, b1, hw1, e1⟩ := dip_ok (m := 9) hw ⟨by omega, by omega⟩
  obtain ⟨r2, l2, a2, b2, hw2, e2⟩ := dip_ok (m := 12) hw1 ⟨by omega, by omega⟩
  exact ⟨1 + r1, r2, l2, hw2, by omega, by omega, a2, by omega, by simp [R__law_crate, M__law_crate, runF, e1, e2, Cr.d, MP.fin, MP.finR, MP.outI, MP.start0, MP.retM, MP.andE, MP.orE, MP.notE, MP.unM, MP.isiD, MP.tyD, MP.varM, MP.conM, MP.Res.bind, MP.Rv.get, MP.ORes.res, MP.ifM, MP.seqM, MP.notT, MP.truM, MP.cmpM, MP.binM, MP.andT, MP.orT, MP.ifE, MP.exprM, MP.nxM, MP.retN, MP.callM, MP.callKM, MP.kall, MP.argsE, MP.argE, MP.esc1, MP.rtR, MP.consA, MP.nilA, MP.biM, MP.getL, MP.arg1, MP.arg2, MP.asgM, MP.fzR, MP.stS, MP.nameG, MP.consG, MP.nilG, MP.tupG, MP.parM, MP.asgTM, MP.subG, MP.mutM, MP.escL, MP.lstM, MP.tupM, MP.ixM, MP.isNotD, MP.isD, MP.isNone, MP.lenD, MP.absD, MP.intD, MP.max2D, MP.min2D, MP.listD, MP.tupleD, MP.forM, MP.seqI, MP.itemsD, MP.enumI, MP.rng1I, MP.rng2I, MP.lockI, MP.lcM, MP.yesM, MP.restore, MP.hide, MP.chainM, MP.chainT, MP.pick, MP.Sl.get]⟩
theorem nm_aq : NmOk "aq" := ⟨by decide +kernel, by decide +kernel, by decide +kernel, by decide +kernel⟩
theorem nm_bq : NmOk "bq" := ⟨by decide +kernel, by decide +kernel, by decide +kernel, by decide +kernel⟩
/-- the slots of _law_right -/
def RSt (l : List D) (t : Sl) (c e : Cr) (d s h f m fo lo so : Sl) : Dl := [.ow l, t, .fz c.d, .fz e.d, d, s, h, f, m, fo, lo, so, .un]
def okP (c e : Cr) (h f : Int) : Bool := !canB [e, ⟨"", h, f⟩] || canB [c, ⟨"", h, f⟩]
theorem pairD (c : Cr) (h f : Int) : (PyData.tuple [c.d, .tuple [.str "", .int h, .int f]]) = lotD [c, ⟨"", h, f⟩] := rfl
theorem inner_turn {l : List D} {t d m fo lo so : Sl} {c e : Cr} {s : Bool} {h f : Int} :
    L__law_right_2 (RSt l t c e d (.fz (.bool s)) (.fz (.int h)) (.fz (.int f)) m fo lo so) = .ok .nx (RSt l t c e d (.fz (.bool (s && okP c e h f))) (.fz (.int h)) (.fz (.int f)) (.fz (.tuple [.str "", .int h, .int f])) fo lo so) := by
  have e1 := law_can (l := [e, ⟨"", h, f⟩]) (by simp)
  have e2 := law_can (l := [c, ⟨"", h, f⟩]) (by simp)
  rw [← pairD] at e1 e2
  generalize h1 : canB [e, ⟨"", h, f⟩] = x at e1
  generalize h2 : canB [c, ⟨"", h, f⟩] = y at e2
  simp only [okP, h1, h2]
  cases s <;> cases x <;> cases y <;> simp [L__law_right_2, RSt, e1, e2, MP.fin, MP.finR, MP.outI, MP.start0, MP.retM, MP.andE, MP.orE, MP.notE, MP.unM, MP.isiD, MP.tyD, MP.varM, MP.conM, MP.Res.bind, MP.Rv.get, MP.ORes.res, MP.ifM, MP.seqM, MP.notT, MP.truM, MP.cmpM, MP.binM, MP.andT, MP.orT, MP.ifE, MP.exprM, MP.nxM, MP.retN, MP.callM, MP.callKM, MP.kall, MP.argsE, MP.argE, MP.esc1, MP.rtR, MP.consA, MP.nilA, MP.biM, MP.getL, MP.arg1, MP.arg2, MP.asgM, MP.fzR, MP.stS, MP.nameG, MP.consG, MP.nilG, MP.tupG, MP.parM, MP.asgTM, MP.subG, MP.mutM, MP.escL, MP.lstM, MP.tupM, MP.ixM, MP.isNotD, MP.isD, MP.isNone, MP.lenD, MP.absD, MP.intD, MP.max2D, MP.min2D, MP.listD, MP.tupleD, MP.forM, MP.seqI, MP.itemsD, MP.enumI, MP.rng1I, MP.rng2I, MP.lockI, MP.lcM, MP.yesM, MP.restore, MP.hide, MP.chainM, MP.chainT, MP.pick, MP.Sl.get]
theorem inner_loop {l : List D} {t d fo lo so : Sl} {c e : Cr} {h : Int} : ∀ (ns : List Int) (s : Bool) (f m : Sl), ∃ f' m',
    MP.loopM (nameG 7) L__law_right_2 (ns.map .int) (RSt l t c e d (.fz (.bool s)) (.fz (.int h)) f m fo lo so) = .ok .nx (RSt l t c e d (.fz (.bool (s && ns.all fun f => okP c e h f))) (.fz (.int h)) f' m' fo lo so)
  | [], s, f, m => ⟨f, m, by simp [loopM]⟩
  | n :: ns, s, f, m => by
    obtain ⟨f', m', ih⟩ := inner_loop ns (s && okP c e h n) (.fz (.int n)) (.fz (.tuple [.str "", .int h, .int n]))
    refine ⟨f', m', ?_⟩
    have hg : nameG 7 (.int n) (RSt l t c e d (.fz (.bool s)) (.fz (.int h)) f m fo lo so) = some (RSt l t c e d (.fz (.bool s)) (.fz (.int h)) (.fz (.int n)) m fo lo so) := rfl
    rw [List.map_cons, loopM, hg]
    simp only [inner_turn, List.all_cons]
    rw [ih, Bool.and_assoc]
def fs : List Int := (List.range 24).map fun i : Nat => (i : Int)
def hs : List Int := (List.range 23).map fun i : Nat => 1 + (i : Int)
theorem mid_turn {l : List D} {t d f m fo lo so : Sl} {c e : Cr} {s : Bool} {h : Int} : ∃ f' m',
    L__law_right_3 (RSt l t c e d (.fz (.bool s)) (.fz (.int h)) f m fo lo so) = .ok .nx (RSt l t c e d (.fz (.bool (s && fs.all fun f => okP c e h f))) (.fz (.int h)) f' m' fo lo so) := by
  obtain ⟨f', m', e⟩ := inner_loop (l := l) (t := t) (d := d) (fo := fo) (lo := lo) (so := so) (c := c) (e := e) (h := h) fs s f m
  refine ⟨f', m', ?_⟩
  have : (fs.map PyData.int) = rangeL 0 24 := by rw [rangeL_eq, fs, List.map_map]; rfl
  rw [this] at e
  simpa [L__law_right_3, MP.rng1I, MP.fin, MP.finR, MP.outI, MP.start0, MP.retM, MP.andE, MP.orE, MP.notE, MP.unM, MP.isiD, MP.tyD, MP.varM, MP.conM, MP.Res.bind, MP.Rv.get, MP.ORes.res, MP.ifM, MP.seqM, MP.notT, MP.truM, MP.cmpM, MP.binM, MP.andT, MP.orT, MP.ifE, MP.exprM, MP.nxM, MP.retN, MP.callM, MP.callKM, MP.kall, MP.argsE, MP.argE, MP.esc1, MP.rtR, MP.consA, MP.nilA, MP.biM, MP.getL, MP.arg1, MP.arg2, MP.asgM, MP.fzR, MP.stS, MP.nameG, MP.consG, MP.nilG, MP.tupG, MP.parM, MP.asgTM, MP.subG, MP.mutM, MP.escL, MP.lstM, MP.tupM, MP.ixM, MP.isNotD, MP.isD, MP.isNone, MP.lenD, MP.absD, MP.intD, MP.max2D, MP.min2D, MP.listD, MP.tupleD, MP.forM, MP.seqI, MP.itemsD, MP.enumI, MP.rng1I, MP.rng2I, MP.lockI, MP.lcM, MP.yesM, MP.restore, MP.hide, MP.chainM, MP.chainT, MP.pick, MP.Sl.get] using e
theorem outer_loop {l : List D} {t d fo lo so : Sl} {c e : Cr} : ∀ (ns : List Int) (s : Bool) (h f m : Sl), ∃ h' f' m',
    MP.loopM (nameG 6) L__law_right_3 (ns.map .int) (RSt l t c e d (.fz (.bool s)) h f m fo lo so) = .ok .nx (RSt l t c e d (.fz (.bool (s && ns.all fun h => fs.all fun f => okP c e h f))) h' f' m' fo lo so)
  | [], s, h, f, m => ⟨h, f, m, by simp [loopM]⟩
  | n :: ns, s, h, f, m => by
    obtain ⟨f1, m1, e1⟩ := mid_turn (l := l) (t := t) (d := d) (f := f) (m := m) (fo := fo) (lo := lo) (so := so) (c := c) (e := e) (s := s) (h := n)
    obtain ⟨h', f', m', ih⟩ := outer_loop ns (s && fs.all fun f => okP c e n f) (.fz (.int n)) f1 m1
    refine ⟨h', f', m', ?_⟩
    have hg : nameG 6 (.int n) (RSt l t c e d (.fz (.bool s)) h f m fo lo so) = some (RSt l t c e d (.fz (.bool s)) (.fz (.int n)) f m fo lo so) := rfl
    rw [List.map_cons, loopM, hg]
    simp only [e1, List.all_cons]
    rw [ih, Bool.and_assoc]
theorem seen_due {c e : Cr} (hw : 1 ≤ c.w ∧ c.w ≤ 9) (hb : 0 ≤ c.b ∧ c.b ≤ 11) (hw2 : 1 ≤ e.w ∧ e.w ≤ 10) (hb2 : 0 ≤ e.b ∧ e.b ≤ 11) : (hs.all fun h => fs.all fun f => okP c e h f) = due c e := by
  rw [Bool.eq_iff_iff, ← due_iff hw hb hw2 hb2]
  simp only [hs, fs, List.all_eq_true, List.mem_map, List.mem_range, forall_exists_index, and_imp, forall_apply_eq_imp_iff₂, okP]
  constructor
  · intro H a f h1 h2 h3 h4 hcan
    have := H (a - 1).toNat (by omega) f.toNat (by omega)
    rw [show (1 : Int) + ((a - 1).toNat : Nat) = a by omega, show ((f.toNat : Nat) : Int) = f by omega, hcan] at this
    simpa using this
  · intro H i hi j hj
    have := H (1 + (i : Int)) j (by omega) (by omega) (by omega) (by omega)
    cases hc : canB [e, ⟨"", 1 + (i : Int), j⟩] with
    | false => rfl
    | true => rw [this hc]; rfl
end LW

set_option Elab.async false
set_option linter.all false
set_option maxRecDepth 100000
set_option maxHeartbeats 2000000
namespace LW
open PySem PySem.Spec PyProof.Rows L2 LamX NdefX MP
theorem seq_step {a b : SM} {δ δ' : Dl} {R : MP.Res Fl} (h : a δ = .ok .nx δ') (h2 : b δ' = R) : seqM a b δ = R := by rw [seqM_nx h]; exact h2
theorem pow9 : powD (.int 10) (.int 9) = .v (.int 1000000000) := by rfl
theorem found_turn {l : List D} {t s h f m lo so : Sl} {c e : Cr} (hc : c.Ok) (he : e.Ok) : ∃ m',
    L__law_right_1 (RSt l t c e (.fz (.bool (due c e))) s h f m (.fz ((barred [c] [e]).getD .none)) lo so) = .ok .nx (RSt l t c e (.fz (.bool (due c e))) s h f m' (.fz ((barred [c] [e]).getD .none)) lo so) := by
  cases hb : barred [c] [e] with
  | none =>
    have hd := barred_none hc he hb
    refine ⟨m, ?_⟩
    have hn : neD (.bool true) (.bool true) = .v (.bool false) := by rfl
    rw [hd]
    simp [L__law_right_1, RSt, hn, MP.fin, MP.finR, MP.outI, MP.start0, MP.retM, MP.andE, MP.orE, MP.notE, MP.unM, MP.isiD, MP.tyD, MP.varM, MP.conM, MP.Res.bind, MP.Rv.get, MP.ORes.res, MP.ifM, MP.seqM, MP.notT, MP.truM, MP.cmpM, MP.binM, MP.andT, MP.orT, MP.ifE, MP.exprM, MP.nxM, MP.retN, MP.callM, MP.callKM, MP.kall, MP.argsE, MP.argE, MP.esc1, MP.rtR, MP.consA, MP.nilA, MP.biM, MP.getL, MP.arg1, MP.arg2, MP.asgM, MP.fzR, MP.stS, MP.nameG, MP.consG, MP.nilG, MP.tupG, MP.parM, MP.asgTM, MP.subG, MP.mutM, MP.escL, MP.lstM, MP.tupM, MP.ixM, MP.isNotD, MP.isD, MP.isNone, MP.lenD, MP.absD, MP.intD, MP.max2D, MP.min2D, MP.listD, MP.tupleD, MP.forM, MP.seqI, MP.itemsD, MP.enumI, MP.rng1I, MP.rng2I, MP.lockI, MP.lcM, MP.yesM, MP.restore, MP.hide, MP.chainM, MP.chainT, MP.pick, MP.Sl.get]
  | some d =>
    obtain ⟨a, fm, rfl, h1, h2, h3, h4, c1, c2⟩ := barred_some hc he hb
    have hd : due c e = false := by rw [← barred_due hc he, hb]; rfl
    have hn : neD (.bool false) (.bool false) = .v (.bool false) := by rfl
    have n1 := law_num a 1 1000000000 ⟨h1, by omega⟩
    have n2 := law_num fm 0 1000000000 ⟨h3, by omega⟩
    have e1 := law_can (l := [e, ⟨"", a, fm⟩]) (by simp)
    have e2 := law_can (l := [c, ⟨"", a, fm⟩]) (by simp)
    rw [← pairD, c1] at e1
    rw [← pairD, c2] at e2
    have x0 : L2.atI [PyData.int a, .int fm] 0 = some (.int a) := rfl
    have x1 : L2.atI [PyData.int a, .int fm] 1 = some (.int fm) := rfl
    rw [hd]
    refine ⟨.fz (.tuple [.str "", .int a, .int fm]), ?_⟩
    simp [L__law_right_1, RSt, hn, n1, n2, e1, e2, ixD, x0, x1, pow9, MP.fin, MP.finR, MP.outI, MP.start0, MP.retM, MP.andE, MP.orE, MP.notE, MP.unM, MP.isiD, MP.tyD, MP.varM, MP.conM, MP.Res.bind, MP.Rv.get, MP.ORes.res, MP.ifM, MP.seqM, MP.notT, MP.truM, MP.cmpM, MP.binM, MP.andT, MP.orT, MP.ifE, MP.exprM, MP.nxM, MP.retN, MP.callM, MP.callKM, MP.kall, MP.argsE, MP.argE, MP.esc1, MP.rtR, MP.consA, MP.nilA, MP.biM, MP.getL, MP.arg1, MP.arg2, MP.asgM, MP.fzR, MP.stS, MP.nameG, MP.consG, MP.nilG, MP.tupG, MP.parM, MP.asgTM, MP.subG, MP.mutM, MP.escL, MP.lstM, MP.tupM, MP.ixM, MP.isNotD, MP.isD, MP.isNone, MP.lenD, MP.absD, MP.intD, MP.max2D, MP.min2D, MP.listD, MP.tupleD, MP.forM, MP.seqI, MP.itemsD, MP.enumI, MP.rng1I, MP.rng2I, MP.lockI, MP.lcM, MP.yesM, MP.restore, MP.hide, MP.chainM, MP.chainT, MP.pick, MP.Sl.get]
theorem found_loop {l : List D} {t s h f m fo lo so : Sl} {c e : Cr} (hc : c.Ok) (he : e.Ok) : ∃ m' fo',
    MP.loopM (nameG 9) L__law_right_1 [(barred [c] [e]).getD .none, (barred [c] [e]).getD .none] (RSt l t c e (.fz (.bool (due c e))) s h f m fo lo so) = .ok .nx (RSt l t c e (.fz (.bool (due c e))) s h f m' fo' lo so) := by
  generalize hx : (barred [c] [e]).getD .none = x
  obtain ⟨m1, e1⟩ := found_turn (l := l) (t := t) (s := s) (h := h) (f := f) (m := m) (lo := lo) (so := so) hc he
  obtain ⟨m2, e2⟩ := found_turn (l := l) (t := t) (s := s) (h := h) (f := f) (m := m1) (lo := lo) (so := so) hc he
  rw [hx] at e1 e2
  have hg : ∀ m fo, nameG 9 x (RSt l t c e (.fz (.bool (due c e))) s h f m fo lo so) = some (RSt l t c e (.fz (.bool (due c e))) s h f m (.fz x) lo so) := fun _ _ => rfl
  refine ⟨m2, .fz x, ?_⟩
  simp only [loopM, hg, e1, e2]
theorem dueD {c e : Cr} {l : List D} {t d s h f m fo lo so : Sl} :
    asgM 4 (andE (binM leD (ixM (varM 2) (conM (.int 1))) (ixM (varM 3) (conM (.int 1)))) (binM geD (ixM (varM 2) (conM (.int 2))) (ixM (varM 3) (conM (.int 2))))) (RSt l t c e d s h f m fo lo so) = .ok .nx (RSt l t c e (.fz (.bool (due c e))) s h f m fo lo so) := by
  have x1 : L2.atI [PyData.str c.n, .int c.w, .int c.b] 1 = some (.int c.w) := rfl
  have x2 : L2.atI [PyData.str c.n, .int c.w, .int c.b] 2 = some (.int c.b) := rfl
  have y1 : L2.atI [PyData.str e.n, .int e.w, .int e.b] 1 = some (.int e.w) := rfl
  have y2 : L2.atI [PyData.str e.n, .int e.w, .int e.b] 2 = some (.int e.b) := rfl
  by_cases h1 : c.w ≤ e.w <;> by_cases h2 : e.b ≤ c.b <;> simp [RSt, Cr.d, ixD, x1, x2, y1, y2, due, h1, h2, MP.fin, MP.finR, MP.outI, MP.start0, MP.retM, MP.andE, MP.orE, MP.notE, MP.unM, MP.isiD, MP.tyD, MP.varM, MP.conM, MP.Res.bind, MP.Rv.get, MP.ORes.res, MP.ifM, MP.seqM, MP.notT, MP.truM, MP.cmpM, MP.binM, MP.andT, MP.orT, MP.ifE, MP.exprM, MP.nxM, MP.retN, MP.callM, MP.callKM, MP.kall, MP.argsE, MP.argE, MP.esc1, MP.rtR, MP.consA, MP.nilA, MP.biM, MP.getL, MP.arg1, MP.arg2, MP.asgM, MP.fzR, MP.stS, MP.nameG, MP.consG, MP.nilG, MP.tupG, MP.parM, MP.asgTM, MP.subG, MP.mutM, MP.escL, MP.lstM, MP.tupM, MP.ixM, MP.isNotD, MP.isD, MP.isNone, MP.lenD, MP.absD, MP.intD, MP.max2D, MP.min2D, MP.listD, MP.tupleD, MP.forM, MP.seqI, MP.itemsD, MP.enumI, MP.rng1I, MP.rng2I, MP.lockI, MP.lcM, MP.yesM, MP.restore, MP.hide, MP.chainM, MP.chainT, MP.pick, MP.Sl.get]
def lot (l : List Cr) : Sl := .fz (lotD l)
theorem turn4 {l : List D} (hw : IsWell l) {t o w d s h f m fo lo so : Sl} : ∃ l' c e d' s' h' f' m' fo' lo' so', IsWell l' ∧
    L__law_right_4 [.ow l, t, o, w, d, s, h, f, m, fo, lo, so, .un] = .ok .nx (RSt l' t c e d' s' h' f' m' fo' lo' so') := by
  obtain ⟨cw, cb, l1, hw1, c1, c2, c3, c4, e1⟩ := law_crate hw "aq"
  obtain ⟨nd, l2, hnd, hw2, e2⟩ := one_list (some_ := [.str "aq", .str "bq"]) hw1 (by simp) (by simp)
  obtain ⟨n2, rfl, hn2⟩ : ∃ n2 : Str, nd = .str n2 ∧ NmOk n2 := by
    simp at hnd
    rcases hnd with rfl | rfl
    · exact ⟨_, rfl, nm_aq⟩
    · exact ⟨_, rfl, nm_bq⟩
  obtain ⟨ew, eb, l3, hw3, d1, d2, d3, d4, e3⟩ := law_crate hw2 n2
  obtain ⟨r4, l4, a4, b4, hw4, e4⟩ := dip_ok (m := 4) hw3 ⟨by omega, by omega⟩
  obtain ⟨r5, l5, a5, b5, hw5, e5⟩ := dip_ok (m := 2) hw4 ⟨by omega, by omega⟩
  obtain ⟨r6, l6, a6, b6, hw6, e6⟩ := dip_ok (m := 2) hw5 ⟨by omega, by omega⟩
  have x1 : L2.atI [PyData.str "aq", .int cw, .int cb] 1 = some (.int cw) := rfl
  have x2 : L2.atI [PyData.str "aq", .int cw, .int cb] 2 = some (.int cb) := rfl
  have s1 : parM 2 3 (consA (callM true noB R__law_crate [] (consA (varM 0) (consA (conM (.str "aq")) nilA))) (consA (callM true noB R__law_crate [] (consA (varM 0) (consA (callM true noB R__law_one [] (consA (varM 0) (consA (lstM (consA (conM (.str "aq")) (consA (conM (.str "bq")) nilA))) nilA))) nilA))) nilA)) [.ow l, t, o, w, d, s, h, f, m, fo, lo, so, .un] = .ok .nx (RSt l3 t ⟨"aq", cw, cb⟩ ⟨n2, ew, eb⟩ d s h f m fo lo so) := by
    simp [RSt, MP.parM, e1, e2, e3, MP.fin, MP.finR, MP.outI, MP.start0, MP.retM, MP.andE, MP.orE, MP.notE, MP.unM, MP.isiD, MP.tyD, MP.varM, MP.conM, MP.Res.bind, MP.Rv.get, MP.ORes.res, MP.ifM, MP.seqM, MP.notT, MP.truM, MP.cmpM, MP.binM, MP.andT, MP.orT, MP.ifE, MP.exprM, MP.nxM, MP.retN, MP.callM, MP.callKM, MP.kall, MP.argsE, MP.argE, MP.esc1, MP.rtR, MP.consA, MP.nilA, MP.biM, MP.getL, MP.arg1, MP.arg2, MP.asgM, MP.fzR, MP.stS, MP.nameG, MP.consG, MP.nilG, MP.tupG, MP.parM, MP.asgTM, MP.subG, MP.mutM, MP.escL, MP.lstM, MP.tupM, MP.ixM, MP.isNotD, MP.isD, MP.isNone, MP.lenD, MP.absD, MP.intD, MP.max2D, MP.min2D, MP.listD, MP.tupleD, MP.forM, MP.seqI, MP.itemsD, MP.enumI, MP.rng1I, MP.rng2I, MP.lockI, MP.lcM, MP.yesM, MP.restore, MP.hide, MP.chainM, MP.chainT, MP.pick, MP.Sl.get]
  obtain ⟨e, l7, hw7, he, g1, g2, g3, g4, s2⟩ : ∃ e l7, IsWell l7 ∧ e.Ok ∧ 1 ≤ e.w ∧ e.w ≤ 10 ∧ 0 ≤ e.b ∧ e.b ≤ 11 ∧ (ifM (cmpM eqD (callM true noB R__law_dip [] (consA (varM 0) (consA (conM (.int 4)) nilA))) (conM (.int 0))) (asgM 3 (tupM (consA (conM (.str "bq")) (consA (binM addD (ixM (varM 2) (conM (.int 1))) (callM true noB R__law_dip [] (consA (varM 0) (consA (conM (.int 2)) nilA)))) (consA (biM (arg2 max2D) (consA (conM (.int 0)) (consA (binM subD (ixM (varM 2) (conM (.int 2))) (callM true noB R__law_dip [] (consA (varM 0) (consA (conM (.int 2)) nilA)))) nilA))) nilA))))) nxM) (RSt l3 t ⟨"aq", cw, cb⟩ ⟨n2, ew, eb⟩ d s h f m fo lo so) = .ok .nx (RSt l7 t ⟨"aq", cw, cb⟩ e d s h f m fo lo so) := by
    by_cases h0 : r4 = 0
    · subst h0
      by_cases h6 : 0 < cb - r6
      · refine ⟨⟨"bq", cw + r5, cb - r6⟩, l6, hw6, ⟨nm_bq, by simp; omega, by simp; omega, by simp; omega, by simp; omega⟩, by simp; omega, by simp; omega, by simp; omega, by simp; omega, ?_⟩
        simp [RSt, Cr.d, e4, e5, e6, ixD, x1, x2, h6, MP.fin, MP.finR, MP.outI, MP.start0, MP.retM, MP.andE, MP.orE, MP.notE, MP.unM, MP.isiD, MP.tyD, MP.varM, MP.conM, MP.Res.bind, MP.Rv.get, MP.ORes.res, MP.ifM, MP.seqM, MP.notT, MP.truM, MP.cmpM, MP.binM, MP.andT, MP.orT, MP.ifE, MP.exprM, MP.nxM, MP.retN, MP.callM, MP.callKM, MP.kall, MP.argsE, MP.argE, MP.esc1, MP.rtR, MP.consA, MP.nilA, MP.biM, MP.getL, MP.arg1, MP.arg2, MP.asgM, MP.fzR, MP.stS, MP.nameG, MP.consG, MP.nilG, MP.tupG, MP.parM, MP.asgTM, MP.subG, MP.mutM, MP.escL, MP.lstM, MP.tupM, MP.ixM, MP.isNotD, MP.isD, MP.isNone, MP.lenD, MP.absD, MP.intD, MP.max2D, MP.min2D, MP.listD, MP.tupleD, MP.forM, MP.seqI, MP.itemsD, MP.enumI, MP.rng1I, MP.rng2I, MP.lockI, MP.lcM, MP.yesM, MP.restore, MP.hide, MP.chainM, MP.chainT, MP.pick, MP.Sl.get]
        try (intro; omega)
      · refine ⟨⟨"bq", cw + r5, 0⟩, l6, hw6, ⟨nm_bq, by simp; omega, by simp; omega, by simp, by simp⟩, by simp; omega, by simp; omega, by simp, by simp, ?_⟩
        simp [RSt, Cr.d, e4, e5, e6, ixD, x1, x2, h6, MP.fin, MP.finR, MP.outI, MP.start0, MP.retM, MP.andE, MP.orE, MP.notE, MP.unM, MP.isiD, MP.tyD, MP.varM, MP.conM, MP.Res.bind, MP.Rv.get, MP.ORes.res, MP.ifM, MP.seqM, MP.notT, MP.truM, MP.cmpM, MP.binM, MP.andT, MP.orT, MP.ifE, MP.exprM, MP.nxM, MP.retN, MP.callM, MP.callKM, MP.kall, MP.argsE, MP.argE, MP.esc1, MP.rtR, MP.consA, MP.nilA, MP.biM, MP.getL, MP.arg1, MP.arg2, MP.asgM, MP.fzR, MP.stS, MP.nameG, MP.consG, MP.nilG, MP.tupG, MP.parM, MP.asgTM, MP.subG, MP.mutM, MP.escL, MP.lstM, MP.tupM, MP.ixM, MP.isNotD, MP.isD, MP.isNone, MP.lenD, MP.absD, MP.intD, MP.max2D, MP.min2D, MP.listD, MP.tupleD, MP.forM, MP.seqI, MP.itemsD, MP.enumI, MP.rng1I, MP.rng2I, MP.lockI, MP.lcM, MP.yesM, MP.restore, MP.hide, MP.chainM, MP.chainT, MP.pick, MP.Sl.get]
        try (intro; omega)
    · refine ⟨⟨n2, ew, eb⟩, l4, hw4, ⟨hn2, d1, by simp; omega, d3, by simp; omega⟩, d1, by simp; omega, d3, d4, ?_⟩
      simp [RSt, e4, h0, MP.fin, MP.finR, MP.outI, MP.start0, MP.retM, MP.andE, MP.orE, MP.notE, MP.unM, MP.isiD, MP.tyD, MP.varM, MP.conM, MP.Res.bind, MP.Rv.get, MP.ORes.res, MP.ifM, MP.seqM, MP.notT, MP.truM, MP.cmpM, MP.binM, MP.andT, MP.orT, MP.ifE, MP.exprM, MP.nxM, MP.retN, MP.callM, MP.callKM, MP.kall, MP.argsE, MP.argE, MP.esc1, MP.rtR, MP.consA, MP.nilA, MP.biM, MP.getL, MP.arg1, MP.arg2, MP.asgM, MP.fzR, MP.stS, MP.nameG, MP.consG, MP.nilG, MP.tupG, MP.parM, MP.asgTM, MP.subG, MP.mutM, MP.escL, MP.lstM, MP.tupM, MP.ixM, MP.isNotD, MP.isD, MP.isNone, MP.lenD, MP.absD, MP.intD, MP.max2D, MP.min2D, MP.listD, MP.tupleD, MP.forM, MP.seqI, MP.itemsD, MP.enumI, MP.rng1I, MP.rng2I, MP.lockI, MP.lcM, MP.yesM, MP.restore, MP.hide, MP.chainM, MP.chainT, MP.pick, MP.Sl.get]
  have hc : Cr.Ok ⟨"aq", cw, cb⟩ := ⟨nm_aq, c1, by simp; omega, c3, by simp; omega⟩
  generalize hcc : (⟨"aq", cw, cb⟩ : Cr) = c at *
  have q1 : 1 ≤ c.w ∧ c.w ≤ 9 := by rw [← hcc]; exact ⟨c1, c2⟩
  have q2 : 0 ≤ c.b ∧ c.b ≤ 11 := by rw [← hcc]; exact ⟨c3, c4⟩
  obtain ⟨cs, l8, hw8, hlot, e8⟩ := law_lot hw7 (most := 7) (by omega) (by omega)
  have hl7 : cs.length ≤ 7 := by have := hlot.len; omega
  have hst := standing_ok hl7 (fun c hc => (hlot.ok c hc).1) hlot.asc he
  have hstand := stands_in hc he
  have hwn := where_not hc he
  obtain ⟨h', f', m', s6⟩ := outer_loop (l := l7) (t := t) (d := .fz (.bool (due c e))) (fo := fo) (lo := lo) (so := so) (c := c) (e := e) hs true h f m
  rw [seen_due q1 q2 ⟨g1, g2⟩ ⟨g3, g4⟩, Bool.true_and] at s6
  have hhs : hs.map PyData.int = rangeL 1 23 := by rw [rangeL_eq, hs, List.map_map]; rfl
  rw [hhs] at s6
  obtain ⟨m2, fo2, s8⟩ := found_loop (l := l7) (t := t) (s := .fz (.bool (due c e))) (h := h') (f := f') (m := m') (fo := fo) (lo := lo) (so := so) hc he
  have hnames : ∀ y ∈ (cs.filter fun a => decide (a.w ≤ e.w ∧ e.b ≤ a.b)).map Cr.n, NmOk y := by
    intro y hy
    obtain ⟨a, ha, rfl⟩ := List.mem_map.mp hy
    exact (hlot.ok a (List.mem_filter.mp ha).1).1.n
  have hnl : ((cs.filter fun a => decide (a.w ≤ e.w ∧ e.b ≤ a.b)).map Cr.n).length ≤ 7 := by
    rw [List.length_map]
    exact Nat.le_trans (List.length_filter_le _ _) hl7
  have hrep := repr_names hnl hnames
  rw [List.map_map] at hrep
  have hcomp : (PyData.str ∘ Cr.n) = fun a : Cr => PyData.str a.n := rfl
  rw [hcomp] at hrep
  have s11 := lcLoop_if (g := MP.nameG 12) (tt := T__law_right_1) (te := E__law_right_1) (vs := [12]) (δ := RSt l8 t c e (.fz (.bool (due c e))) (.fz (.bool (due c e))) h' f' m2 fo2 (.fz (lotD cs)) so) (e := Cr.d) (p := fun a => decide (a.w ≤ e.w ∧ e.b ≤ a.b)) (f := fun a => .str a.n) cs (by
    intro a ha
    have y0 : L2.atI [PyData.str a.n, .int a.w, .int a.b] 0 = some (.str a.n) := rfl
    have y1 : L2.atI [PyData.str a.n, .int a.w, .int a.b] 1 = some (.int a.w) := rfl
    have y2 : L2.atI [PyData.str a.n, .int a.w, .int a.b] 2 = some (.int a.b) := rfl
    have z1 : L2.atI [PyData.str e.n, .int e.w, .int e.b] 1 = some (.int e.w) := rfl
    have z2 : L2.atI [PyData.str e.n, .int e.w, .int e.b] 2 = some (.int e.b) := rfl
    by_cases k1 : a.w ≤ e.w <;> by_cases k2 : e.b ≤ a.b <;> simp [turnC, T__law_right_1, E__law_right_1, RSt, Cr.d, ixD, y0, y1, y2, z1, z2, k1, k2, MP.fin, MP.finR, MP.outI, MP.start0, MP.retM, MP.andE, MP.orE, MP.notE, MP.unM, MP.isiD, MP.tyD, MP.varM, MP.conM, MP.Res.bind, MP.Rv.get, MP.ORes.res, MP.ifM, MP.seqM, MP.notT, MP.truM, MP.cmpM, MP.binM, MP.andT, MP.orT, MP.ifE, MP.exprM, MP.nxM, MP.retN, MP.callM, MP.callKM, MP.kall, MP.argsE, MP.argE, MP.esc1, MP.rtR, MP.consA, MP.nilA, MP.biM, MP.getL, MP.arg1, MP.arg2, MP.asgM, MP.fzR, MP.stS, MP.nameG, MP.consG, MP.nilG, MP.tupG, MP.parM, MP.asgTM, MP.subG, MP.mutM, MP.escL, MP.lstM, MP.tupM, MP.ixM, MP.isNotD, MP.isD, MP.isNone, MP.lenD, MP.absD, MP.intD, MP.max2D, MP.min2D, MP.listD, MP.tupleD, MP.forM, MP.seqI, MP.itemsD, MP.enumI, MP.rng1I, MP.rng2I, MP.lockI, MP.lcM, MP.yesM, MP.restore, MP.hide, MP.chainM, MP.chainT, MP.pick, MP.Sl.get]) (by unfold line; omega)
  refine ⟨l8, c, e, .fz (.bool (due c e)), .fz (.bool (due c e)), h', f', m2, fo2, .fz (lotD cs), .fz (.tuple ((cs.filter fun a => decide (a.w ≤ e.w ∧ e.b ≤ a.b)).map fun a => .str a.n)), hw8, ?_⟩
  unfold L__law_right_4
  refine seq_step s1 (seq_step s2 (seq_step dueD ?_))
  refine seq_step (δ' := RSt l7 t c e (.fz (.bool (due c e))) s h f m fo lo so) ?_ ?_
  · have hr := repr_bools (due c e)
    have hsd : decide (c.w ≤ e.w ∧ e.b ≤ c.b) = due c e := rfl
    rw [hsd] at hstand
    simp [RSt, hstand, hr, ne_self, MP.fin, MP.finR, MP.outI, MP.start0, MP.retM, MP.andE, MP.orE, MP.notE, MP.unM, MP.isiD, MP.tyD, MP.varM, MP.conM, MP.Res.bind, MP.Rv.get, MP.ORes.res, MP.ifM, MP.seqM, MP.notT, MP.truM, MP.cmpM, MP.binM, MP.andT, MP.orT, MP.ifE, MP.exprM, MP.nxM, MP.retN, MP.callM, MP.callKM, MP.kall, MP.argsE, MP.argE, MP.esc1, MP.rtR, MP.consA, MP.nilA, MP.biM, MP.getL, MP.arg1, MP.arg2, MP.asgM, MP.fzR, MP.stS, MP.nameG, MP.consG, MP.nilG, MP.tupG, MP.parM, MP.asgTM, MP.subG, MP.mutM, MP.escL, MP.lstM, MP.tupM, MP.ixM, MP.isNotD, MP.isD, MP.isNone, MP.lenD, MP.absD, MP.intD, MP.max2D, MP.min2D, MP.listD, MP.tupleD, MP.forM, MP.seqI, MP.itemsD, MP.enumI, MP.rng1I, MP.rng2I, MP.lockI, MP.lcM, MP.yesM, MP.restore, MP.hide, MP.chainM, MP.chainT, MP.pick, MP.Sl.get]
  refine seq_step (δ' := RSt l7 t c e (.fz (.bool (due c e))) (.fz (.bool true)) h f m fo lo so) (by rfl) ?_
  refine seq_step (δ' := RSt l7 t c e (.fz (.bool (due c e))) (.fz (.bool (due c e))) h' f' m' fo lo so) ?_ ?_
  · simpa [MP.forM, MP.rng2I, MP.fin, MP.finR, MP.outI, MP.start0, MP.retM, MP.andE, MP.orE, MP.notE, MP.unM, MP.isiD, MP.tyD, MP.varM, MP.conM, MP.Res.bind, MP.Rv.get, MP.ORes.res, MP.ifM, MP.seqM, MP.notT, MP.truM, MP.cmpM, MP.binM, MP.andT, MP.orT, MP.ifE, MP.exprM, MP.nxM, MP.retN, MP.callM, MP.callKM, MP.kall, MP.argsE, MP.argE, MP.esc1, MP.rtR, MP.consA, MP.nilA, MP.biM, MP.getL, MP.arg1, MP.arg2, MP.asgM, MP.fzR, MP.stS, MP.nameG, MP.consG, MP.nilG, MP.tupG, MP.parM, MP.asgTM, MP.subG, MP.mutM, MP.escL, MP.lstM, MP.tupM, MP.ixM, MP.isNotD, MP.isD, MP.isNone, MP.lenD, MP.absD, MP.intD, MP.max2D, MP.min2D, MP.listD, MP.tupleD, MP.forM, MP.seqI, MP.itemsD, MP.enumI, MP.rng1I, MP.rng2I, MP.lockI, MP.lcM, MP.yesM, MP.restore, MP.hide, MP.chainM, MP.chainT, MP.pick, MP.Sl.get] using s6
  refine seq_step (δ' := RSt l7 t c e (.fz (.bool (due c e))) (.fz (.bool (due c e))) h' f' m' fo lo so) ?_ ?_
  · have : neD (.bool (due c e)) (.bool (due c e)) = .v (.bool false) := by cases due c e <;> rfl
    simp [RSt, this, MP.fin, MP.finR, MP.outI, MP.start0, MP.retM, MP.andE, MP.orE, MP.notE, MP.unM, MP.isiD, MP.tyD, MP.varM, MP.conM, MP.Res.bind, MP.Rv.get, MP.ORes.res, MP.ifM, MP.seqM, MP.notT, MP.truM, MP.cmpM, MP.binM, MP.andT, MP.orT, MP.ifE, MP.exprM, MP.nxM, MP.retN, MP.callM, MP.callKM, MP.kall, MP.argsE, MP.argE, MP.esc1, MP.rtR, MP.consA, MP.nilA, MP.biM, MP.getL, MP.arg1, MP.arg2, MP.asgM, MP.fzR, MP.stS, MP.nameG, MP.consG, MP.nilG, MP.tupG, MP.parM, MP.asgTM, MP.subG, MP.mutM, MP.escL, MP.lstM, MP.tupM, MP.ixM, MP.isNotD, MP.isD, MP.isNone, MP.lenD, MP.absD, MP.intD, MP.max2D, MP.min2D, MP.listD, MP.tupleD, MP.forM, MP.seqI, MP.itemsD, MP.enumI, MP.rng1I, MP.rng2I, MP.lockI, MP.lcM, MP.yesM, MP.restore, MP.hide, MP.chainM, MP.chainT, MP.pick, MP.Sl.get]
  refine seq_step (δ' := RSt l7 t c e (.fz (.bool (due c e))) (.fz (.bool (due c e))) h' f' m2 fo2 lo so) ?_ ?_
  · simp only [RSt] at s8 ⊢
    simp [hwn, s8, MP.fin, MP.finR, MP.outI, MP.start0, MP.retM, MP.andE, MP.orE, MP.notE, MP.unM, MP.isiD, MP.tyD, MP.varM, MP.conM, MP.Res.bind, MP.Rv.get, MP.ORes.res, MP.ifM, MP.seqM, MP.notT, MP.truM, MP.cmpM, MP.binM, MP.andT, MP.orT, MP.ifE, MP.exprM, MP.nxM, MP.retN, MP.callM, MP.callKM, MP.kall, MP.argsE, MP.argE, MP.esc1, MP.rtR, MP.consA, MP.nilA, MP.biM, MP.getL, MP.arg1, MP.arg2, MP.asgM, MP.fzR, MP.stS, MP.nameG, MP.consG, MP.nilG, MP.tupG, MP.parM, MP.asgTM, MP.subG, MP.mutM, MP.escL, MP.lstM, MP.tupM, MP.ixM, MP.isNotD, MP.isD, MP.isNone, MP.lenD, MP.absD, MP.intD, MP.max2D, MP.min2D, MP.listD, MP.tupleD, MP.forM, MP.seqI, MP.itemsD, MP.enumI, MP.rng1I, MP.rng2I, MP.lockI, MP.lcM, MP.yesM, MP.restore, MP.hide, MP.chainM, MP.chainT, MP.pick, MP.Sl.get]
  refine seq_step (δ' := RSt l8 t c e (.fz (.bool (due c e))) (.fz (.bool (due c e))) h' f' m2 fo2 (.fz (lotD cs)) so) ?_ ?_
  · simp [RSt, e8, MP.fin, MP.finR, MP.outI, MP.start0, MP.retM, MP.andE, MP.orE, MP.notE, MP.unM, MP.isiD, MP.tyD, MP.varM, MP.conM, MP.Res.bind, MP.Rv.get, MP.ORes.res, MP.ifM, MP.seqM, MP.notT, MP.truM, MP.cmpM, MP.binM, MP.andT, MP.orT, MP.ifE, MP.exprM, MP.nxM, MP.retN, MP.callM, MP.callKM, MP.kall, MP.argsE, MP.argE, MP.esc1, MP.rtR, MP.consA, MP.nilA, MP.biM, MP.getL, MP.arg1, MP.arg2, MP.asgM, MP.fzR, MP.stS, MP.nameG, MP.consG, MP.nilG, MP.tupG, MP.parM, MP.asgTM, MP.subG, MP.mutM, MP.escL, MP.lstM, MP.tupM, MP.ixM, MP.isNotD, MP.isD, MP.isNone, MP.lenD, MP.absD, MP.intD, MP.max2D, MP.min2D, MP.listD, MP.tupleD, MP.forM, MP.seqI, MP.itemsD, MP.enumI, MP.rng1I, MP.rng2I, MP.lockI, MP.lcM, MP.yesM, MP.restore, MP.hide, MP.chainM, MP.chainT, MP.pick, MP.Sl.get]
  refine seq_step (δ' := RSt l8 t c e (.fz (.bool (due c e))) (.fz (.bool (due c e))) h' f' m2 fo2 (.fz (lotD cs)) (.fz (.tuple ((cs.filter fun a => decide (a.w ≤ e.w ∧ e.b ≤ a.b)).map fun a => .str a.n)))) ?_ ?_
  · simp only [RSt, lotD] at s11 ⊢
    simp [s11, MP.fin, MP.finR, MP.outI, MP.start0, MP.retM, MP.andE, MP.orE, MP.notE, MP.unM, MP.isiD, MP.tyD, MP.varM, MP.conM, MP.Res.bind, MP.Rv.get, MP.ORes.res, MP.ifM, MP.seqM, MP.notT, MP.truM, MP.cmpM, MP.binM, MP.andT, MP.orT, MP.ifE, MP.exprM, MP.nxM, MP.retN, MP.callM, MP.callKM, MP.kall, MP.argsE, MP.argE, MP.esc1, MP.rtR, MP.consA, MP.nilA, MP.biM, MP.getL, MP.arg1, MP.arg2, MP.asgM, MP.fzR, MP.stS, MP.nameG, MP.consG, MP.nilG, MP.tupG, MP.parM, MP.asgTM, MP.subG, MP.mutM, MP.escL, MP.lstM, MP.tupM, MP.ixM, MP.isNotD, MP.isD, MP.isNone, MP.lenD, MP.absD, MP.intD, MP.max2D, MP.min2D, MP.listD, MP.tupleD, MP.forM, MP.seqI, MP.itemsD, MP.enumI, MP.rng1I, MP.rng2I, MP.lockI, MP.lcM, MP.yesM, MP.restore, MP.hide, MP.chainM, MP.chainT, MP.pick, MP.Sl.get]
  · generalize (cs.filter fun a => decide (a.w ≤ e.w ∧ e.b ≤ a.b)).map (fun a => PyData.str a.n) = ns at hst hrep ⊢
    simp [RSt, hst, hrep, ne_self, MP.fin, MP.finR, MP.outI, MP.start0, MP.retM, MP.andE, MP.orE, MP.notE, MP.unM, MP.isiD, MP.tyD, MP.varM, MP.conM, MP.Res.bind, MP.Rv.get, MP.ORes.res, MP.ifM, MP.seqM, MP.notT, MP.truM, MP.cmpM, MP.binM, MP.andT, MP.orT, MP.ifE, MP.exprM, MP.nxM, MP.retN, MP.callM, MP.callKM, MP.kall, MP.argsE, MP.argE, MP.esc1, MP.rtR, MP.consA, MP.nilA, MP.biM, MP.getL, MP.arg1, MP.arg2, MP.asgM, MP.fzR, MP.stS, MP.nameG, MP.consG, MP.nilG, MP.tupG, MP.parM, MP.asgTM, MP.subG, MP.mutM, MP.escL, MP.lstM, MP.tupM, MP.ixM, MP.isNotD, MP.isD, MP.isNone, MP.lenD, MP.absD, MP.intD, MP.max2D, MP.min2D, MP.listD, MP.tupleD, MP.forM, MP.seqI, MP.itemsD, MP.enumI, MP.rng1I, MP.rng2I, MP.lockI, MP.lcM, MP.yesM, MP.restore, MP.hide, MP.chainM, MP.chainT, MP.pick, MP.Sl.get]
theorem right_loop : ∀ (n : Nat) (lo : Int) {l : List D}, IsWell l → ∀ t o w d s h f m fo l0 so : Sl, ∃ l' x1 x2 x3 x4 x5 x6 x7 x8 x9 x10 x11, IsWell l' ∧
    MP.loopM (nameG 1) L__law_right_4 (rangeL lo n) [.ow l, t, o, w, d, s, h, f, m, fo, l0, so, .un] = .ok .nx [.ow l', x1, x2, x3, x4, x5, x6, x7, x8, x9, x10, x11, .un]
  | 0, lo, l, hw, t, o, w, d, s, h, f, m, fo, l0, so => ⟨l, t, o, w, d, s, h, f, m, fo, l0, so, hw, rfl⟩
  | n + 1, lo, l, hw, t, o, w, d, s, h, f, m, fo, l0, so => by
    obtain ⟨l1, c, e, d', s', h', f', m', fo', lo', so', hw1, e1⟩ := turn4 hw (t := .fz (.int lo)) (o := o) (w := w) (d := d) (s := s) (h := h) (f := f) (m := m) (fo := fo) (lo := l0) (so := so)
    obtain ⟨l2, x1, x2, x3, x4, x5, x6, x7, x8, x9, x10, x11, hw2, e2⟩ := right_loop n (lo + 1) hw1 (.fz (.int lo)) (.fz c.d) (.fz e.d) d' s' h' f' m' fo' lo' so'
    refine ⟨l2, x1, x2, x3, x4, x5, x6, x7, x8, x9, x10, x11, hw2, ?_⟩
    have hg : nameG 1 (.int lo) [.ow l, t, o, w, d, s, h, f, m, fo, l0, so, .un] = some [.ow l, .fz (.int lo), o, w, d, s, h, f, m, fo, l0, so, .un] := rfl
    rw [rangeL, loopM, hg]
    simp only [e1]
    exact e2
theorem law_right {l : List D} (hw : IsWell l) : ∃ l', R__law_right [.ow l] = .ok (.fz (.bool true)) (some l') := by
  obtain ⟨l2, x1, x2, x3, x4, x5, x6, x7, x8, x9, x10, x11, hw2, e2⟩ := right_loop 6 0 hw .un .un .un .un .un .un .un .un .un .un .un
  refine ⟨l2, ?_⟩
  simp [R__law_right, M__law_right, runF, MP.rng1I, e2, MP.fin, MP.finR, MP.outI, MP.start0, MP.retM, MP.andE, MP.orE, MP.notE, MP.unM, MP.isiD, MP.tyD, MP.varM, MP.conM, MP.Res.bind, MP.Rv.get, MP.ORes.res, MP.ifM, MP.seqM, MP.notT, MP.truM, MP.cmpM, MP.binM, MP.andT, MP.orT, MP.ifE, MP.exprM, MP.nxM, MP.retN, MP.callM, MP.callKM, MP.kall, MP.argsE, MP.argE, MP.esc1, MP.rtR, MP.consA, MP.nilA, MP.biM, MP.getL, MP.arg1, MP.arg2, MP.asgM, MP.fzR, MP.stS, MP.nameG, MP.consG, MP.nilG, MP.tupG, MP.parM, MP.asgTM, MP.subG, MP.mutM, MP.escL, MP.lstM, MP.tupM, MP.ixM, MP.isNotD, MP.isD, MP.isNone, MP.lenD, MP.absD, MP.intD, MP.max2D, MP.min2D, MP.listD, MP.tupleD, MP.forM, MP.seqI, MP.itemsD, MP.enumI, MP.rng1I, MP.rng2I, MP.lockI, MP.lcM, MP.yesM, MP.restore, MP.hide, MP.chainM, MP.chainT, MP.pick, MP.Sl.get]
theorem plain_law (ns : List Int) (hl : ns.length ≤ 63) (hz : ∀ z ∈ ns, Builtin.Int.intBits z ≤ 1048576) : ∃ o, R_law [.fz (.list (ns.map .int))] = .ok (.fz (.bool true)) o := by
  obtain ⟨n, hn, et⟩ : ∃ n : Nat, n ≤ 3 ∧ R__law_turns [.fz (.list (ns.map .int))] = .ok (.ow (rangeL 0 n)) none := by
    by_cases h : (ns.length : Int) ≤ 2
    · refine ⟨2, by omega, ?_⟩
      have hm : min2D (.int ns.length) (.int 3) = .v (.int ns.length) := by simp only [min2D]; congr 2; split <;> omega
      have hx : max2D (.int 2) (.int ns.length) = .v (.int 2) := by simp only [max2D]; congr 2; split <;> omega
      simp only [max2D, min2D] at hm hx
      simp [R__law_turns, M__law_turns, runF, listRgM, hm, hx, MP.fin, MP.finR, MP.outI, MP.start0, MP.retM, MP.andE, MP.orE, MP.notE, MP.unM, MP.isiD, MP.tyD, MP.varM, MP.conM, MP.Res.bind, MP.Rv.get, MP.ORes.res, MP.ifM, MP.seqM, MP.notT, MP.truM, MP.cmpM, MP.binM, MP.andT, MP.orT, MP.ifE, MP.exprM, MP.nxM, MP.retN, MP.callM, MP.callKM, MP.kall, MP.argsE, MP.argE, MP.esc1, MP.rtR, MP.consA, MP.nilA, MP.biM, MP.getL, MP.arg1, MP.arg2, MP.asgM, MP.fzR, MP.stS, MP.nameG, MP.consG, MP.nilG, MP.tupG, MP.parM, MP.asgTM, MP.subG, MP.mutM, MP.escL, MP.lstM, MP.tupM, MP.ixM, MP.isNotD, MP.isD, MP.isNone, MP.lenD, MP.absD, MP.intD, MP.max2D, MP.min2D, MP.listD, MP.tupleD, MP.forM, MP.seqI, MP.itemsD, MP.enumI, MP.rng1I, MP.rng2I, MP.lockI, MP.lcM, MP.yesM, MP.restore, MP.hide, MP.chainM, MP.chainT, MP.pick, MP.Sl.get]
    · refine ⟨3, by omega, ?_⟩
      have hm : min2D (.int ns.length) (.int 3) = .v (.int 3) := by simp only [min2D]; congr 2; split <;> omega
      have hx : max2D (.int 2) (.int 3) = .v (.int 3) := by rfl
      simp only [max2D, min2D] at hm hx
      simp [R__law_turns, M__law_turns, runF, listRgM, hm, hx, MP.fin, MP.finR, MP.outI, MP.start0, MP.retM, MP.andE, MP.orE, MP.notE, MP.unM, MP.isiD, MP.tyD, MP.varM, MP.conM, MP.Res.bind, MP.Rv.get, MP.ORes.res, MP.ifM, MP.seqM, MP.notT, MP.truM, MP.cmpM, MP.binM, MP.andT, MP.orT, MP.ifE, MP.exprM, MP.nxM, MP.retN, MP.callM, MP.callKM, MP.kall, MP.argsE, MP.argE, MP.esc1, MP.rtR, MP.consA, MP.nilA, MP.biM, MP.getL, MP.arg1, MP.arg2, MP.asgM, MP.fzR, MP.stS, MP.nameG, MP.consG, MP.nilG, MP.tupG, MP.parM, MP.asgTM, MP.subG, MP.mutM, MP.escL, MP.lstM, MP.tupM, MP.ixM, MP.isNotD, MP.isD, MP.isNone, MP.lenD, MP.absD, MP.intD, MP.max2D, MP.min2D, MP.listD, MP.tupleD, MP.forM, MP.seqI, MP.itemsD, MP.enumI, MP.rng1I, MP.rng2I, MP.lockI, MP.lcM, MP.yesM, MP.restore, MP.hide, MP.chainM, MP.chainT, MP.pick, MP.Sl.get]
  have e := lcLoop_m (g := nameG 1) (tt := yesM) (te := E_law_1) (vs := [1]) (δ := [.fz (.list (ns.map .int)), .un]) (e := fun i : Nat => PyData.int (0 + (i : Int))) (f := fun _ => .bool true) (List.range n) (by
    intro i hi
    obtain ⟨l, hw, ew⟩ := well_ok (ns := ns) (k := 0 + (i : Int)) (by omega) hl
    obtain ⟨l', er⟩ := law_right hw
    simp only [Int.zero_add] at ew
    simp [turnC, E_law_1, ew, er, MP.fin, MP.finR, MP.outI, MP.start0, MP.retM, MP.andE, MP.orE, MP.notE, MP.unM, MP.isiD, MP.tyD, MP.varM, MP.conM, MP.Res.bind, MP.Rv.get, MP.ORes.res, MP.ifM, MP.seqM, MP.notT, MP.truM, MP.cmpM, MP.binM, MP.andT, MP.orT, MP.ifE, MP.exprM, MP.nxM, MP.retN, MP.callM, MP.callKM, MP.kall, MP.argsE, MP.argE, MP.esc1, MP.rtR, MP.consA, MP.nilA, MP.biM, MP.getL, MP.arg1, MP.arg2, MP.asgM, MP.fzR, MP.stS, MP.nameG, MP.consG, MP.nilG, MP.tupG, MP.parM, MP.asgTM, MP.subG, MP.mutM, MP.escL, MP.lstM, MP.tupM, MP.ixM, MP.isNotD, MP.isD, MP.isNone, MP.lenD, MP.absD, MP.intD, MP.max2D, MP.min2D, MP.listD, MP.tupleD, MP.forM, MP.seqI, MP.itemsD, MP.enumI, MP.rng1I, MP.rng2I, MP.lockI, MP.lcM, MP.yesM, MP.restore, MP.hide, MP.chainM, MP.chainT, MP.pick, MP.Sl.get]) (by simp; unfold line; omega)
  rw [← rangeL_eq] at e
  refine ⟨none, ?_⟩
  have hb := boolsOf_map (f := fun _ : Nat => true) (List.range n)
  simp [R_law, M_law, runF, et, e, allD, hb, MP.fin, MP.finR, MP.outI, MP.start0, MP.retM, MP.andE, MP.orE, MP.notE, MP.unM, MP.isiD, MP.tyD, MP.varM, MP.conM, MP.Res.bind, MP.Rv.get, MP.ORes.res, MP.ifM, MP.seqM, MP.notT, MP.truM, MP.cmpM, MP.binM, MP.andT, MP.orT, MP.ifE, MP.exprM, MP.nxM, MP.retN, MP.callM, MP.callKM, MP.kall, MP.argsE, MP.argE, MP.esc1, MP.rtR, MP.consA, MP.nilA, MP.biM, MP.getL, MP.arg1, MP.arg2, MP.asgM, MP.fzR, MP.stS, MP.nameG, MP.consG, MP.nilG, MP.tupG, MP.parM, MP.asgTM, MP.subG, MP.mutM, MP.escL, MP.lstM, MP.tupM, MP.ixM, MP.isNotD, MP.isD, MP.isNone, MP.lenD, MP.absD, MP.intD, MP.max2D, MP.min2D, MP.listD, MP.tupleD, MP.forM, MP.seqI, MP.itemsD, MP.enumI, MP.rng1I, MP.rng2I, MP.lockI, MP.lcM, MP.yesM, MP.restore, MP.hide, MP.chainM, MP.chainT, MP.pick, MP.Sl.get]
end LW

set_option Elab.async false
set_option linter.all false
set_option maxRecDepth 100000
set_option maxHeartbeats 0
namespace LW
open PySem PySem.Spec PyProof.Rows L2 LamX NdefX MP
theorem all_mk {l : PySem.W.OpenLaw} {w : World} {K : PySem.W.Frag} {mg : Str → Option Value} {h : Heap} {fa : Addr} (X : K.In h) (G : h.Ns mainGlobals mg) (hfa : mg "law" = some (.ref fa))
    {f_is_whole : Addr} {oc_is_whole kV_is_whole dc_is_whole pm_is_whole ct_is_whole cd_is_whole : Value} {od_is_whole an_is_whole : Option Addr} {sl_is_whole : Array (Option Value)}
    {f_is_number : Addr} {oc_is_number kV_is_number dc_is_number pm_is_number ct_is_number cd_is_number : Value} {od_is_number an_is_number : Option Addr} {sl_is_number : Array (Option Value)}
    {f_is_tuple_of : Addr} {oc_is_tuple_of kV_is_tuple_of dc_is_tuple_of pm_is_tuple_of ct_is_tuple_of cd_is_tuple_of : Value} {od_is_tuple_of an_is_tuple_of : Option Addr} {sl_is_tuple_of : Array (Option Value)}
    {f_wrong_at : Addr} {oc_wrong_at kV_wrong_at dc_wrong_at pm_wrong_at ct_wrong_at cd_wrong_at : Value} {od_wrong_at an_wrong_at : Option Addr} {sl_wrong_at : Array (Option Value)}
    {f_is_letters : Addr} {oc_is_letters kV_is_letters dc_is_letters pm_is_letters ct_is_letters cd_is_letters : Value} {od_is_letters an_is_letters : Option Addr} {sl_is_letters : Array (Option Value)}
    {f_is_name : Addr} {oc_is_name kV_is_name dc_is_name pm_is_name ct_is_name cd_is_name : Value} {od_is_name an_is_name : Option Addr} {sl_is_name : Array (Option Value)}
    {f_is_crate_form : Addr} {oc_is_crate_form kV_is_crate_form dc_is_crate_form pm_is_crate_form ct_is_crate_form cd_is_crate_form : Value} {od_is_crate_form an_is_crate_form : Option Addr} {sl_is_crate_form : Array (Option Value)}
    {f_wrong_lot : Addr} {oc_wrong_lot kV_wrong_lot dc_wrong_lot pm_wrong_lot ct_wrong_lot : Value} {od_wrong_lot an_wrong_lot : Option Addr} {sl_wrong_lot : Array (Option Value)}
    {dT_wrong_lot dE_wrong_lot : Addr} {dd1_wrong_lot dd2_wrong_lot : Option Addr} {dn1_wrong_lot dn2_wrong_lot : Nat} {ds1_wrong_lot ds2_wrong_lot : Array (Option Value)}
    {tc_wrong_lot tp_wrong_lot : Addr}
    {to_wrong_lot : Value} {td_wrong_lot : Option Addr} {tv_wrong_lot : Array Value} {ts_wrong_lot : Array (Option Value)}
    {f_weight_up_to : Addr} {oc_weight_up_to kV_weight_up_to dc_weight_up_to pm_weight_up_to ct_weight_up_to cd_weight_up_to : Value} {od_weight_up_to an_weight_up_to : Option Addr} {sl_weight_up_to : Array (Option Value)}
    {f_greatest_bound : Addr} {oc_greatest_bound kV_greatest_bound dc_greatest_bound pm_greatest_bound ct_greatest_bound cd_greatest_bound : Value} {od_greatest_bound an_greatest_bound : Option Addr} {sl_greatest_bound : Array (Option Value)}
    {f_check_lot : Addr} {oc_check_lot kV_check_lot dc_check_lot pm_check_lot ct_check_lot cd_check_lot : Value} {od_check_lot an_check_lot : Option Addr} {sl_check_lot : Array (Option Value)}
    {f_check_crate : Addr} {oc_check_crate kV_check_crate dc_check_crate pm_check_crate ct_check_crate cd_check_crate : Value} {od_check_crate an_check_crate : Option Addr} {sl_check_crate : Array (Option Value)}
    {f_room_at : Addr} {oc_room_at kV_room_at dc_room_at pm_room_at ct_room_at cd_room_at : Value} {od_room_at an_room_at : Option Addr} {sl_room_at : Array (Option Value)}
    {f_barred_of : Addr} {oc_barred_of kV_barred_of dc_barred_of pm_barred_of ct_barred_of cd_barred_of : Value} {od_barred_of an_barred_of : Option Addr} {sl_barred_of : Array (Option Value)}
    {f_does_for : Addr} {oc_does_for kV_does_for dc_does_for pm_does_for ct_does_for cd_does_for : Value} {od_does_for an_does_for : Option Addr} {sl_does_for : Array (Option Value)}
    {f_stands_in : Addr} {oc_stands_in kV_stands_in dc_stands_in pm_stands_in ct_stands_in cd_stands_in : Value} {od_stands_in an_stands_in : Option Addr} {sl_stands_in : Array (Option Value)}
    {f_where_not : Addr} {oc_where_not kV_where_not dc_where_not pm_where_not ct_where_not cd_where_not : Value} {od_where_not an_where_not : Option Addr} {sl_where_not : Array (Option Value)}
    {f_standing_in : Addr} {oc_standing_in kV_standing_in dc_standing_in pm_standing_in ct_standing_in cd_standing_in : Value} {od_standing_in an_standing_in : Option Addr} {sl_standing_in : Array (Option Value)}
    {f__law_well : Addr} {oc__law_well kV__law_well dc__law_well pm__law_well ct__law_well cd__law_well : Value} {od__law_well an__law_well : Option Addr} {sl__law_well : Array (Option Value)}
    {f__law_dip : Addr} {oc__law_dip kV__law_dip dc__law_dip pm__law_dip ct__law_dip cd__law_dip : Value} {od__law_dip an__law_dip : Option Addr} {sl__law_dip : Array (Option Value)}
    {f__law_one : Addr} {oc__law_one kV__law_one dc__law_one pm__law_one ct__law_one cd__law_one : Value} {od__law_one an__law_one : Option Addr} {sl__law_one : Array (Option Value)}
    {f__law_turns : Addr} {oc__law_turns kV__law_turns dc__law_turns pm__law_turns ct__law_turns cd__law_turns : Value} {od__law_turns an__law_turns : Option Addr} {sl__law_turns : Array (Option Value)}
    {f__law_is_number : Addr} {oc__law_is_number kV__law_is_number dc__law_is_number pm__law_is_number ct__law_is_number cd__law_is_number : Value} {od__law_is_number an__law_is_number : Option Addr} {sl__law_is_number : Array (Option Value)}
    {f__law_words : Addr} {oc__law_words kV__law_words dc__law_words pm__law_words ct__law_words cd__law_words : Value} {od__law_words an__law_words : Option Addr} {sl__law_words : Array (Option Value)}
    {f__law_lot : Addr} {oc__law_lot kV__law_lot dc__law_lot pm__law_lot ct__law_lot cd__law_lot : Value} {od__law_lot an__law_lot : Option Addr} {sl__law_lot : Array (Option Value)}
    {f__law_to : Addr} {oc__law_to kV__law_to dc__law_to pm__law_to ct__law_to cd__law_to : Value} {od__law_to an__law_to : Option Addr} {sl__law_to : Array (Option Value)}
    {f__law_can : Addr} {oc__law_can kV__law_can dc__law_can pm__law_can ct__law_can cd__law_can : Value} {od__law_can an__law_can : Option Addr} {sl__law_can : Array (Option Value)}
    {f__law_crate : Addr} {oc__law_crate kV__law_crate dc__law_crate pm__law_crate ct__law_crate cd__law_crate : Value} {od__law_crate an__law_crate : Option Addr} {sl__law_crate : Array (Option Value)}
    {f__law_right : Addr} {oc__law_right kV__law_right dc__law_right pm__law_right ct__law_right cd__law_right : Value} {od__law_right an__law_right : Option Addr} {sl__law_right : Array (Option Value)}
    {f_law : Addr} {oc_law kV_law dc_law pm_law ct_law cd_law : Value} {od_law an_law : Option Addr} {sl_law : Array (Option Value)}
    {tk_MOST_BEARS : Tok}
    {tk_MOST_CRATES : Tok}
    {tk_MOST_IN_NAME : Tok}
    {tk_MOST_WEIGHT : Tok}
    {tk_SMALL_LETTERS : Tok}
    {va_WORDS : Addr} {vd_WORDS : Option Addr} {vi_WORDS : Array Value} {vn_WORDS : Nat} {vs_WORDS : Array (Option Value)}
    (a_is_whole : PySem.W.nsIn K mainGlobals "is_whole" = some (some (.ref f_is_whole)))
    (l_is_whole : K.lookup f_is_whole = some ⟨oc_is_whole, od_is_whole, .func (PySem.W.fnOf "is_whole" "is_whole" (defArgs s_is_whole) (defBody s_is_whole) (defScope s_is_whole) .none kV_is_whole dc_is_whole pm_is_whole an_is_whole cd_is_whole ct_is_whole), sl_is_whole⟩)
    (c_is_whole : PySem.W.codeIn K cd_is_whole "is_whole" = true)
    (k_is_whole : PySem.W.keepIn K (.ref f_is_whole) = true)
    (a_is_number : PySem.W.nsIn K mainGlobals "is_number" = some (some (.ref f_is_number)))
    (l_is_number : K.lookup f_is_number = some ⟨oc_is_number, od_is_number, .func (PySem.W.fnOf "is_number" "is_number" (defArgs s_is_number) (defBody s_is_number) (defScope s_is_number) .none kV_is_number dc_is_number pm_is_number an_is_number cd_is_number ct_is_number), sl_is_number⟩)
    (c_is_number : PySem.W.codeIn K cd_is_number "is_number" = true)
    (k_is_number : PySem.W.keepIn K (.ref f_is_number) = true)
    (a_is_tuple_of : PySem.W.nsIn K mainGlobals "is_tuple_of" = some (some (.ref f_is_tuple_of)))
    (l_is_tuple_of : K.lookup f_is_tuple_of = some ⟨oc_is_tuple_of, od_is_tuple_of, .func (PySem.W.fnOf "is_tuple_of" "is_tuple_of" (defArgs s_is_tuple_of) (defBody s_is_tuple_of) (defScope s_is_tuple_of) .none kV_is_tuple_of dc_is_tuple_of pm_is_tuple_of an_is_tuple_of cd_is_tuple_of ct_is_tuple_of), sl_is_tuple_of⟩)
    (c_is_tuple_of : PySem.W.codeIn K cd_is_tuple_of "is_tuple_of" = true)
    (k_is_tuple_of : PySem.W.keepIn K (.ref f_is_tuple_of) = true)
    (a_wrong_at : PySem.W.nsIn K mainGlobals "wrong_at" = some (some (.ref f_wrong_at)))
    (l_wrong_at : K.lookup f_wrong_at = some ⟨oc_wrong_at, od_wrong_at, .func (PySem.W.fnOf "wrong_at" "wrong_at" (defArgs s_wrong_at) (defBody s_wrong_at) (defScope s_wrong_at) .none kV_wrong_at dc_wrong_at pm_wrong_at an_wrong_at cd_wrong_at ct_wrong_at), sl_wrong_at⟩)
    (c_wrong_at : PySem.W.codeIn K cd_wrong_at "wrong_at" = true)
    (k_wrong_at : PySem.W.keepIn K (.ref f_wrong_at) = true)
    (a_is_letters : PySem.W.nsIn K mainGlobals "is_letters" = some (some (.ref f_is_letters)))
    (l_is_letters : K.lookup f_is_letters = some ⟨oc_is_letters, od_is_letters, .func (PySem.W.fnOf "is_letters" "is_letters" (defArgs s_is_letters) (defBody s_is_letters) (defScope s_is_letters) .none kV_is_letters dc_is_letters pm_is_letters an_is_letters cd_is_letters ct_is_letters), sl_is_letters⟩)
    (c_is_letters : PySem.W.codeIn K cd_is_letters "is_letters" = true)
    (k_is_letters : PySem.W.keepIn K (.ref f_is_letters) = true)
    (a_is_name : PySem.W.nsIn K mainGlobals "is_name" = some (some (.ref f_is_name)))
    (l_is_name : K.lookup f_is_name = some ⟨oc_is_name, od_is_name, .func (PySem.W.fnOf "is_name" "is_name" (defArgs s_is_name) (defBody s_is_name) (defScope s_is_name) .none kV_is_name dc_is_name pm_is_name an_is_name cd_is_name ct_is_name), sl_is_name⟩)
    (c_is_name : PySem.W.codeIn K cd_is_name "is_name" = true)
    (k_is_name : PySem.W.keepIn K (.ref f_is_name) = true)
    (a_is_crate_form : PySem.W.nsIn K mainGlobals "is_crate_form" = some (some (.ref f_is_crate_form)))
    (l_is_crate_form : K.lookup f_is_crate_form = some ⟨oc_is_crate_form, od_is_crate_form, .func (PySem.W.fnOf "is_crate_form" "is_crate_form" (defArgs s_is_crate_form) (defBody s_is_crate_form) (defScope s_is_crate_form) .none kV_is_crate_form dc_is_crate_form pm_is_crate_form an_is_crate_form cd_is_crate_form ct_is_crate_form), sl_is_crate_form⟩)
    (c_is_crate_form : PySem.W.codeIn K cd_is_crate_form "is_crate_form" = true)
    (k_is_crate_form : PySem.W.keepIn K (.ref f_is_crate_form) = true)
    (a_wrong_lot : PySem.W.nsIn K mainGlobals "wrong_lot" = some (some (.ref f_wrong_lot)))
    (l_wrong_lot : K.lookup f_wrong_lot = some ⟨oc_wrong_lot, od_wrong_lot, .func (PySem.W.fnOf "wrong_lot" "wrong_lot" (defArgs s_wrong_lot) (defBody s_wrong_lot) (defScope s_wrong_lot) (.ref dT_wrong_lot) kV_wrong_lot dc_wrong_lot pm_wrong_lot an_wrong_lot (.ref tc_wrong_lot) ct_wrong_lot), sl_wrong_lot⟩)
    (c_wrong_lot : PySem.W.codeIn K (.ref tc_wrong_lot) "wrong_lot" = true)
    (k_wrong_lot : PySem.W.keepIn K (.ref f_wrong_lot) = true)
    (dl_wrong_lot : K.lookup dT_wrong_lot = some ⟨.type "tuple", dd1_wrong_lot, .seq [Value.ref dE_wrong_lot].toArray dn1_wrong_lot, ds1_wrong_lot⟩)
    (de_wrong_lot : K.lookup dE_wrong_lot = some ⟨.type "tuple", dd2_wrong_lot, .seq #[] dn2_wrong_lot, ds2_wrong_lot⟩)
    (o_wrong_lot : K.lookup tc_wrong_lot = some ⟨to_wrong_lot, td_wrong_lot, .fields tv_wrong_lot, ts_wrong_lot⟩)
    (r_wrong_lot : tv_wrong_lot[11]? = some (Value.ref tp_wrong_lot))
    (t_wrong_lot : PySem.W.codeHdIn K tc_wrong_lot tp_wrong_lot = true)
    (n_wrong_lot : K.lookup tp_wrong_lot = none)
    (tb_wrong_lot : h.get? tp_wrong_lot = some { cls := .none, data := .fields #[] })
    (a_weight_up_to : PySem.W.nsIn K mainGlobals "weight_up_to" = some (some (.ref f_weight_up_to)))
    (l_weight_up_to : K.lookup f_weight_up_to = some ⟨oc_weight_up_to, od_weight_up_to, .func (PySem.W.fnOf "weight_up_to" "weight_up_to" (defArgs s_weight_up_to) (defBody s_weight_up_to) (defScope s_weight_up_to) .none kV_weight_up_to dc_weight_up_to pm_weight_up_to an_weight_up_to cd_weight_up_to ct_weight_up_to), sl_weight_up_to⟩)
    (c_weight_up_to : PySem.W.codeIn K cd_weight_up_to "weight_up_to" = true)
    (k_weight_up_to : PySem.W.keepIn K (.ref f_weight_up_to) = true)
    (a_greatest_bound : PySem.W.nsIn K mainGlobals "greatest_bound" = some (some (.ref f_greatest_bound)))
    (l_greatest_bound : K.lookup f_greatest_bound = some ⟨oc_greatest_bound, od_greatest_bound, .func (PySem.W.fnOf "greatest_bound" "greatest_bound" (defArgs s_greatest_bound) (defBody s_greatest_bound) (defScope s_greatest_bound) .none kV_greatest_bound dc_greatest_bound pm_greatest_bound an_greatest_bound cd_greatest_bound ct_greatest_bound), sl_greatest_bound⟩)
    (c_greatest_bound : PySem.W.codeIn K cd_greatest_bound "greatest_bound" = true)
    (k_greatest_bound : PySem.W.keepIn K (.ref f_greatest_bound) = true)
    (a_check_lot : PySem.W.nsIn K mainGlobals "check_lot" = some (some (.ref f_check_lot)))
    (l_check_lot : K.lookup f_check_lot = some ⟨oc_check_lot, od_check_lot, .func (PySem.W.fnOf "check_lot" "check_lot" (defArgs s_check_lot) (defBody s_check_lot) (defScope s_check_lot) .none kV_check_lot dc_check_lot pm_check_lot an_check_lot cd_check_lot ct_check_lot), sl_check_lot⟩)
    (c_check_lot : PySem.W.codeIn K cd_check_lot "check_lot" = true)
    (k_check_lot : PySem.W.keepIn K (.ref f_check_lot) = true)
    (a_check_crate : PySem.W.nsIn K mainGlobals "check_crate" = some (some (.ref f_check_crate)))
    (l_check_crate : K.lookup f_check_crate = some ⟨oc_check_crate, od_check_crate, .func (PySem.W.fnOf "check_crate" "check_crate" (defArgs s_check_crate) (defBody s_check_crate) (defScope s_check_crate) .none kV_check_crate dc_check_crate pm_check_crate an_check_crate cd_check_crate ct_check_crate), sl_check_crate⟩)
    (c_check_crate : PySem.W.codeIn K cd_check_crate "check_crate" = true)
    (k_check_crate : PySem.W.keepIn K (.ref f_check_crate) = true)
    (a_room_at : PySem.W.nsIn K mainGlobals "room_at" = some (some (.ref f_room_at)))
    (l_room_at : K.lookup f_room_at = some ⟨oc_room_at, od_room_at, .func (PySem.W.fnOf "room_at" "room_at" (defArgs s_room_at) (defBody s_room_at) (defScope s_room_at) .none kV_room_at dc_room_at pm_room_at an_room_at cd_room_at ct_room_at), sl_room_at⟩)
    (c_room_at : PySem.W.codeIn K cd_room_at "room_at" = true)
    (k_room_at : PySem.W.keepIn K (.ref f_room_at) = true)
    (a_barred_of : PySem.W.nsIn K mainGlobals "barred_of" = some (some (.ref f_barred_of)))
    (l_barred_of : K.lookup f_barred_of = some ⟨oc_barred_of, od_barred_of, .func (PySem.W.fnOf "barred_of" "barred_of" (defArgs s_barred_of) (defBody s_barred_of) (defScope s_barred_of) .none kV_barred_of dc_barred_of pm_barred_of an_barred_of cd_barred_of ct_barred_of), sl_barred_of⟩)
    (c_barred_of : PySem.W.codeIn K cd_barred_of "barred_of" = true)
    (k_barred_of : PySem.W.keepIn K (.ref f_barred_of) = true)
    (a_does_for : PySem.W.nsIn K mainGlobals "does_for" = some (some (.ref f_does_for)))
    (l_does_for : K.lookup f_does_for = some ⟨oc_does_for, od_does_for, .func (PySem.W.fnOf "does_for" "does_for" (defArgs s_does_for) (defBody s_does_for) (defScope s_does_for) .none kV_does_for dc_does_for pm_does_for an_does_for cd_does_for ct_does_for), sl_does_for⟩)
    (c_does_for : PySem.W.codeIn K cd_does_for "does_for" = true)
    (k_does_for : PySem.W.keepIn K (.ref f_does_for) = true)
    (a_stands_in : PySem.W.nsIn K mainGlobals "stands_in" = some (some (.ref f_stands_in)))
    (l_stands_in : K.lookup f_stands_in = some ⟨oc_stands_in, od_stands_in, .func (PySem.W.fnOf "stands_in" "stands_in" (defArgs s_stands_in) (defBody s_stands_in) (defScope s_stands_in) .none kV_stands_in dc_stands_in pm_stands_in an_stands_in cd_stands_in ct_stands_in), sl_stands_in⟩)
    (c_stands_in : PySem.W.codeIn K cd_stands_in "stands_in" = true)
    (k_stands_in : PySem.W.keepIn K (.ref f_stands_in) = true)
    (a_where_not : PySem.W.nsIn K mainGlobals "where_not" = some (some (.ref f_where_not)))
    (l_where_not : K.lookup f_where_not = some ⟨oc_where_not, od_where_not, .func (PySem.W.fnOf "where_not" "where_not" (defArgs s_where_not) (defBody s_where_not) (defScope s_where_not) .none kV_where_not dc_where_not pm_where_not an_where_not cd_where_not ct_where_not), sl_where_not⟩)
    (c_where_not : PySem.W.codeIn K cd_where_not "where_not" = true)
    (k_where_not : PySem.W.keepIn K (.ref f_where_not) = true)
    (a_standing_in : PySem.W.nsIn K mainGlobals "standing_in" = some (some (.ref f_standing_in)))
    (l_standing_in : K.lookup f_standing_in = some ⟨oc_standing_in, od_standing_in, .func (PySem.W.fnOf "standing_in" "standing_in" (defArgs s_standing_in) (defBody s_standing_in) (defScope s_standing_in) .none kV_standing_in dc_standing_in pm_standing_in an_standing_in cd_standing_in ct_standing_in), sl_standing_in⟩)
    (c_standing_in : PySem.W.codeIn K cd_standing_in "standing_in" = true)
    (k_standing_in : PySem.W.keepIn K (.ref f_standing_in) = true)
    (a__law_well : PySem.W.nsIn K mainGlobals "_law_well" = some (some (.ref f__law_well)))
    (l__law_well : K.lookup f__law_well = some ⟨oc__law_well, od__law_well, .func (PySem.W.fnOf "_law_well" "_law_well" (defArgs s__law_well) (defBody s__law_well) (defScope s__law_well) .none kV__law_well dc__law_well pm__law_well an__law_well cd__law_well ct__law_well), sl__law_well⟩)
    (c__law_well : PySem.W.codeIn K cd__law_well "_law_well" = true)
    (k__law_well : PySem.W.keepIn K (.ref f__law_well) = true)
    (a__law_dip : PySem.W.nsIn K mainGlobals "_law_dip" = some (some (.ref f__law_dip)))
    (l__law_dip : K.lookup f__law_dip = some ⟨oc__law_dip, od__law_dip, .func (PySem.W.fnOf "_law_dip" "_law_dip" (defArgs s__law_dip) (defBody s__law_dip) (defScope s__law_dip) .none kV__law_dip dc__law_dip pm__law_dip an__law_dip cd__law_dip ct__law_dip), sl__law_dip⟩)
    (c__law_dip : PySem.W.codeIn K cd__law_dip "_law_dip" = true)
    (k__law_dip : PySem.W.keepIn K (.ref f__law_dip) = true)
    (a__law_one : PySem.W.nsIn K mainGlobals "_law_one" = some (some (.ref f__law_one)))
    (l__law_one : K.lookup f__law_one = some ⟨oc__law_one, od__law_one, .func (PySem.W.fnOf "_law_one" "_law_one" (defArgs s__law_one) (defBody s__law_one) (defScope s__law_one) .none kV__law_one dc__law_one pm__law_one an__law_one cd__law_one ct__law_one), sl__law_one⟩)
    (c__law_one : PySem.W.codeIn K cd__law_one "_law_one" = true)
    (k__law_one : PySem.W.keepIn K (.ref f__law_one) = true)
    (a__law_turns : PySem.W.nsIn K mainGlobals "_law_turns" = some (some (.ref f__law_turns)))
    (l__law_turns : K.lookup f__law_turns = some ⟨oc__law_turns, od__law_turns, .func (PySem.W.fnOf "_law_turns" "_law_turns" (defArgs s__law_turns) (defBody s__law_turns) (defScope s__law_turns) .none kV__law_turns dc__law_turns pm__law_turns an__law_turns cd__law_turns ct__law_turns), sl__law_turns⟩)
    (c__law_turns : PySem.W.codeIn K cd__law_turns "_law_turns" = true)
    (k__law_turns : PySem.W.keepIn K (.ref f__law_turns) = true)
    (a__law_is_number : PySem.W.nsIn K mainGlobals "_law_is_number" = some (some (.ref f__law_is_number)))
    (l__law_is_number : K.lookup f__law_is_number = some ⟨oc__law_is_number, od__law_is_number, .func (PySem.W.fnOf "_law_is_number" "_law_is_number" (defArgs s__law_is_number) (defBody s__law_is_number) (defScope s__law_is_number) .none kV__law_is_number dc__law_is_number pm__law_is_number an__law_is_number cd__law_is_number ct__law_is_number), sl__law_is_number⟩)
    (c__law_is_number : PySem.W.codeIn K cd__law_is_number "_law_is_number" = true)
    (k__law_is_number : PySem.W.keepIn K (.ref f__law_is_number) = true)
    (a__law_words : PySem.W.nsIn K mainGlobals "_law_words" = some (some (.ref f__law_words)))
    (l__law_words : K.lookup f__law_words = some ⟨oc__law_words, od__law_words, .func (PySem.W.fnOf "_law_words" "_law_words" (defArgs s__law_words) (defBody s__law_words) (defScope s__law_words) .none kV__law_words dc__law_words pm__law_words an__law_words cd__law_words ct__law_words), sl__law_words⟩)
    (c__law_words : PySem.W.codeIn K cd__law_words "_law_words" = true)
    (k__law_words : PySem.W.keepIn K (.ref f__law_words) = true)
    (a__law_lot : PySem.W.nsIn K mainGlobals "_law_lot" = some (some (.ref f__law_lot)))
    (l__law_lot : K.lookup f__law_lot = some ⟨oc__law_lot, od__law_lot, .func (PySem.W.fnOf "_law_lot" "_law_lot" (defArgs s__law_lot) (defBody s__law_lot) (defScope s__law_lot) .none kV__law_lot dc__law_lot pm__law_lot an__law_lot cd__law_lot ct__law_lot), sl__law_lot⟩)
    (c__law_lot : PySem.W.codeIn K cd__law_lot "_law_lot" = true)
    (k__law_lot : PySem.W.keepIn K (.ref f__law_lot) = true)
    (a__law_to : PySem.W.nsIn K mainGlobals "_law_to" = some (some (.ref f__law_to)))
    (l__law_to : K.lookup f__law_to = some ⟨oc__law_to, od__law_to, .func (PySem.W.fnOf "_law_to" "_law_to" (defArgs s__law_to) (defBody s__law_to) (defScope s__law_to) .none kV__law_to dc__law_to pm__law_to an__law_to cd__law_to ct__law_to), sl__law_to⟩)
    (c__law_to : PySem.W.codeIn K cd__law_to "_law_to" = true)
    (k__law_to : PySem.W.keepIn K (.ref f__law_to) = true)
    (a__law_can : PySem.W.nsIn K mainGlobals "_law_can" = some (some (.ref f__law_can)))
    (l__law_can : K.lookup f__law_can = some ⟨oc__law_can, od__law_can, .func (PySem.W.fnOf "_law_can" "_law_can" (defArgs s__law_can) (defBody s__law_can) (defScope s__law_can) .none kV__law_can dc__law_can pm__law_can an__law_can cd__law_can ct__law_can), sl__law_can⟩)
    (c__law_can : PySem.W.codeIn K cd__law_can "_law_can" = true)
    (k__law_can : PySem.W.keepIn K (.ref f__law_can) = true)
    (a__law_crate : PySem.W.nsIn K mainGlobals "_law_crate" = some (some (.ref f__law_crate)))
    (l__law_crate : K.lookup f__law_crate = some ⟨oc__law_crate, od__law_crate, .func (PySem.W.fnOf "_law_crate" "_law_crate" (defArgs s__law_crate) (defBody s__law_crate) (defScope s__law_crate) .none kV__law_crate dc__law_crate pm__law_crate an__law_crate cd__law_crate ct__law_crate), sl__law_crate⟩)
    (c__law_crate : PySem.W.codeIn K cd__law_crate "_law_crate" = true)
    (k__law_crate : PySem.W.keepIn K (.ref f__law_crate) = true)
    (a__law_right : PySem.W.nsIn K mainGlobals "_law_right" = some (some (.ref f__law_right)))
    (l__law_right : K.lookup f__law_right = some ⟨oc__law_right, od__law_right, .func (PySem.W.fnOf "_law_right" "_law_right" (defArgs s__law_right) (defBody s__law_right) (defScope s__law_right) .none kV__law_right dc__law_right pm__law_right an__law_right cd__law_right ct__law_right), sl__law_right⟩)
    (c__law_right : PySem.W.codeIn K cd__law_right "_law_right" = true)
    (k__law_right : PySem.W.keepIn K (.ref f__law_right) = true)
    (a_law : PySem.W.nsIn K mainGlobals "law" = some (some (.ref f_law)))
    (l_law : K.lookup f_law = some ⟨oc_law, od_law, .func (PySem.W.fnOf "law" "law" (defArgs s_law) (defBody s_law) (defScope s_law) .none kV_law dc_law pm_law an_law cd_law ct_law), sl_law⟩)
    (c_law : PySem.W.codeIn K cd_law "law" = true)
    (k_law : PySem.W.keepIn K (.ref f_law) = true)
    (v_MOST_BEARS : PySem.W.nsIn K mainGlobals "MOST_BEARS" = some (some (.int 999 tk_MOST_BEARS)))
    (v_MOST_CRATES : PySem.W.nsIn K mainGlobals "MOST_CRATES" = some (some (.int 7 tk_MOST_CRATES)))
    (v_MOST_IN_NAME : PySem.W.nsIn K mainGlobals "MOST_IN_NAME" = some (some (.int 8 tk_MOST_IN_NAME)))
    (v_MOST_WEIGHT : PySem.W.nsIn K mainGlobals "MOST_WEIGHT" = some (some (.int 999 tk_MOST_WEIGHT)))
    (v_SMALL_LETTERS : PySem.W.nsIn K mainGlobals "SMALL_LETTERS" = some (some (.str "abcdefghijklmnopqrstuvwxyz" tk_SMALL_LETTERS)))
    (v_WORDS : PySem.W.nsIn K mainGlobals "WORDS" = some (some (.ref va_WORDS)))
    (w_WORDS : K.lookup va_WORDS = some ⟨.type "tuple", vd_WORDS, .seq vi_WORDS vn_WORDS, vs_WORDS⟩)
    (x_WORDS : vi_WORDS.size ≤ sizeLine)
    (y_WORDS : strsB ((["above", "all", "any", "bears", "below", "broke", "by", "can", "crate", "day", "days", "goes", "guest", "held", "holds", "in"] : List Str) ++ (["leaves", "lifts", "loads", "most", "no", "none", "of", "on", "out", "pull", "put", "room", "rule", "shelf", "slip", "snow"] : List Str) ++ (["spare", "stack", "take", "tidy", "to", "top", "weighs", "with", "yard"] : List Str)) vi_WORDS.toList = true)
    (e_abs : PySem.W.nsIn K mainGlobals "abs" = some none)
    (e_all : PySem.W.nsIn K mainGlobals "all" = some none)
    (e_bool : PySem.W.nsIn K mainGlobals "bool" = some none)
    (e_divmod : PySem.W.nsIn K mainGlobals "divmod" = some none)
    (e_enumerate : PySem.W.nsIn K mainGlobals "enumerate" = some none)
    (e_int : PySem.W.nsIn K mainGlobals "int" = some none)
    (e_isinstance : PySem.W.nsIn K mainGlobals "isinstance" = some none)
    (e_len : PySem.W.nsIn K mainGlobals "len" = some none)
    (e_list : PySem.W.nsIn K mainGlobals "list" = some none)
    (e_max : PySem.W.nsIn K mainGlobals "max" = some none)
    (e_min : PySem.W.nsIn K mainGlobals "min" = some none)
    (e_range : PySem.W.nsIn K mainGlobals "range" = some none)
    (e_repr : PySem.W.nsIn K mainGlobals "repr" = some none)
    (e_sorted : PySem.W.nsIn K mainGlobals "sorted" = some none)
    (e_str : PySem.W.nsIn K mainGlobals "str" = some none)
    (e_sum : PySem.W.nsIn K mainGlobals "sum" = some none)
    (e_tuple : PySem.W.nsIn K mainGlobals "tuple" = some none)
    (plain : ∀ ns : List Int, ns.length ≤ 63 → (∀ z ∈ ns, Builtin.Int.intBits z ≤ 1048576) → ∃ o, R_law [.fz (.list (ns.map .int))] = .ok (.fz (.bool true)) o) : LawC l w K 46 63 "script" mg fa h := by
  obtain rfl : f_law = fa := by
    have e := hfa.symm.trans (PySem.W.mg_of X G a_law)
    cases e; rfl
  let E : Tx K mg := { f_is_whole := f_is_whole, fd_is_whole := _, co_is_whole := cd_is_whole, F_is_whole := FunX.mk' l_is_whole c_is_whole k_is_whole, g_is_whole := PySem.W.mg_of X G a_is_whole, f_is_number := f_is_number, fd_is_number := _, co_is_number := cd_is_number, F_is_number := FunX.mk' l_is_number c_is_number k_is_number, g_is_number := PySem.W.mg_of X G a_is_number, f_is_tuple_of := f_is_tuple_of, fd_is_tuple_of := _, co_is_tuple_of := cd_is_tuple_of, F_is_tuple_of := FunX.mk' l_is_tuple_of c_is_tuple_of k_is_tuple_of, g_is_tuple_of := PySem.W.mg_of X G a_is_tuple_of, f_wrong_at := f_wrong_at, fd_wrong_at := _, co_wrong_at := cd_wrong_at, F_wrong_at := FunX.mk' l_wrong_at c_wrong_at k_wrong_at, g_wrong_at := PySem.W.mg_of X G a_wrong_at, f_is_letters := f_is_letters, fd_is_letters := _, co_is_letters := cd_is_letters, F_is_letters := FunX.mk' l_is_letters c_is_letters k_is_letters, g_is_letters := PySem.W.mg_of X G a_is_letters, f_is_name := f_is_name, fd_is_name := _, co_is_name := cd_is_name, F_is_name := FunX.mk' l_is_name c_is_name k_is_name, g_is_name := PySem.W.mg_of X G a_is_name, f_is_crate_form := f_is_crate_form, fd_is_crate_form := _, co_is_crate_form := cd_is_crate_form, F_is_crate_form := FunX.mk' l_is_crate_form c_is_crate_form k_is_crate_form, g_is_crate_form := PySem.W.mg_of X G a_is_crate_form, f_wrong_lot := f_wrong_lot, fd_wrong_lot := _, co_wrong_lot := (.ref tc_wrong_lot), F_wrong_lot := FunX.mk' l_wrong_lot c_wrong_lot k_wrong_lot, g_wrong_lot := PySem.W.mg_of X G a_wrong_lot, dT_wrong_lot := dT_wrong_lot, dE_wrong_lot := dE_wrong_lot, dO_wrong_lot := _, dm_wrong_lot := _, dl_wrong_lot := dl_wrong_lot, dd_wrong_lot := rfl, dq_wrong_lot := Dfl.empty de_wrong_lot rfl rfl, tc_wrong_lot := tc_wrong_lot, tp_wrong_lot := tp_wrong_lot, cd_wrong_lot := rfl, f_weight_up_to := f_weight_up_to, fd_weight_up_to := _, co_weight_up_to := cd_weight_up_to, F_weight_up_to := FunX.mk' l_weight_up_to c_weight_up_to k_weight_up_to, g_weight_up_to := PySem.W.mg_of X G a_weight_up_to, f_greatest_bound := f_greatest_bound, fd_greatest_bound := _, co_greatest_bound := cd_greatest_bound, F_greatest_bound := FunX.mk' l_greatest_bound c_greatest_bound k_greatest_bound, g_greatest_bound := PySem.W.mg_of X G a_greatest_bound, f_check_lot := f_check_lot, fd_check_lot := _, co_check_lot := cd_check_lot, F_check_lot := FunX.mk' l_check_lot c_check_lot k_check_lot, g_check_lot := PySem.W.mg_of X G a_check_lot, f_check_crate := f_check_crate, fd_check_crate := _, co_check_crate := cd_check_crate, F_check_crate := FunX.mk' l_check_crate c_check_crate k_check_crate, g_check_crate := PySem.W.mg_of X G a_check_crate, f_room_at := f_room_at, fd_room_at := _, co_room_at := cd_room_at, F_room_at := FunX.mk' l_room_at c_room_at k_room_at, g_room_at := PySem.W.mg_of X G a_room_at, f_barred_of := f_barred_of, fd_barred_of := _, co_barred_of := cd_barred_of, F_barred_of := FunX.mk' l_barred_of c_barred_of k_barred_of, g_barred_of := PySem.W.mg_of X G a_barred_of, f_does_for := f_does_for, fd_does_for := _, co_does_for := cd_does_for, F_does_for := FunX.mk' l_does_for c_does_for k_does_for, g_does_for := PySem.W.mg_of X G a_does_for, f_stands_in := f_stands_in, fd_stands_in := _, co_stands_in := cd_stands_in, F_stands_in := FunX.mk' l_stands_in c_stands_in k_stands_in, g_stands_in := PySem.W.mg_of X G a_stands_in, f_where_not := f_where_not, fd_where_not := _, co_where_not := cd_where_not, F_where_not := FunX.mk' l_where_not c_where_not k_where_not, g_where_not := PySem.W.mg_of X G a_where_not, f_standing_in := f_standing_in, fd_standing_in := _, co_standing_in := cd_standing_in, F_standing_in := FunX.mk' l_standing_in c_standing_in k_standing_in, g_standing_in := PySem.W.mg_of X G a_standing_in, f__law_well := f__law_well, fd__law_well := _, co__law_well := cd__law_well, F__law_well := FunX.mk' l__law_well c__law_well k__law_well, g__law_well := PySem.W.mg_of X G a__law_well, f__law_dip := f__law_dip, fd__law_dip := _, co__law_dip := cd__law_dip, F__law_dip := FunX.mk' l__law_dip c__law_dip k__law_dip, g__law_dip := PySem.W.mg_of X G a__law_dip, f__law_one := f__law_one, fd__law_one := _, co__law_one := cd__law_one, F__law_one := FunX.mk' l__law_one c__law_one k__law_one, g__law_one := PySem.W.mg_of X G a__law_one, f__law_turns := f__law_turns, fd__law_turns := _, co__law_turns := cd__law_turns, F__law_turns := FunX.mk' l__law_turns c__law_turns k__law_turns, g__law_turns := PySem.W.mg_of X G a__law_turns, f__law_is_number := f__law_is_number, fd__law_is_number := _, co__law_is_number := cd__law_is_number, F__law_is_number := FunX.mk' l__law_is_number c__law_is_number k__law_is_number, g__law_is_number := PySem.W.mg_of X G a__law_is_number, f__law_words := f__law_words, fd__law_words := _, co__law_words := cd__law_words, F__law_words := FunX.mk' l__law_words c__law_words k__law_words, g__law_words := PySem.W.mg_of X G a__law_words, f__law_lot := f__law_lot, fd__law_lot := _, co__law_lot := cd__law_lot, F__law_lot := FunX.mk' l__law_lot c__law_lot k__law_lot, g__law_lot := PySem.W.mg_of X G a__law_lot, f__law_to := f__law_to, fd__law_to := _, co__law_to := cd__law_to, F__law_to := FunX.mk' l__law_to c__law_to k__law_to, g__law_to := PySem.W.mg_of X G a__law_to, f__law_can := f__law_can, fd__law_can := _, co__law_can := cd__law_can, F__law_can := FunX.mk' l__law_can c__law_can k__law_can, g__law_can := PySem.W.mg_of X G a__law_can, f__law_crate := f__law_crate, fd__law_crate := _, co__law_crate := cd__law_crate, F__law_crate := FunX.mk' l__law_crate c__law_crate k__law_crate, g__law_crate := PySem.W.mg_of X G a__law_crate, f__law_right := f__law_right, fd__law_right := _, co__law_right := cd__law_right, F__law_right := FunX.mk' l__law_right c__law_right k__law_right, g__law_right := PySem.W.mg_of X G a__law_right, f_law := f_law, fd_law := _, co_law := cd_law, F_law := FunX.mk' l_law c_law k_law, g_law := PySem.W.mg_of X G a_law, c_MOST_BEARS := GlobD.int (PySem.W.mg_of X G v_MOST_BEARS), c_MOST_CRATES := GlobD.int (PySem.W.mg_of X G v_MOST_CRATES), c_MOST_IN_NAME := GlobD.int (PySem.W.mg_of X G v_MOST_IN_NAME), c_MOST_WEIGHT := GlobD.int (PySem.W.mg_of X G v_MOST_WEIGHT), c_SMALL_LETTERS := GlobD.str (PySem.W.mg_of X G v_SMALL_LETTERS), c_WORDS := GlobD.strs (PySem.W.mg_of X G v_WORDS) w_WORDS rfl rfl x_WORDS y_WORDS, b_abs := PySem.W.mg_none_of X G e_abs, b_all := PySem.W.mg_none_of X G e_all, b_bool := PySem.W.mg_none_of X G e_bool, b_divmod := PySem.W.mg_none_of X G e_divmod, b_enumerate := PySem.W.mg_none_of X G e_enumerate, b_int := PySem.W.mg_none_of X G e_int, b_isinstance := PySem.W.mg_none_of X G e_isinstance, b_len := PySem.W.mg_none_of X G e_len, b_list := PySem.W.mg_none_of X G e_list, b_max := PySem.W.mg_none_of X G e_max, b_min := PySem.W.mg_none_of X G e_min, b_range := PySem.W.mg_none_of X G e_range, b_repr := PySem.W.mg_none_of X G e_repr, b_sorted := PySem.W.mg_none_of X G e_sorted, b_str := PySem.W.mg_none_of X G e_str, b_sum := PySem.W.mg_none_of X G e_sum, b_tuple := PySem.W.mg_none_of X G e_tuple }
  have TB : ∀ base : Heap, (∀ p ∈ ([(tc_wrong_lot, tp_wrong_lot)] : List (Addr × Addr)), TabB base mg p.1 p.2) → FnC l.prog w K mg base ([(tp_wrong_lot, nm_wrong_lot)] : List NTab) 46 f_law E.fd_law ["script"] false R_law := fun base hTB => by
    exact ok_law E (hTB (tc_wrong_lot, tp_wrong_lot) (by simp)) (by simp [E]) (by
        intro p hp e
        simp only [List.mem_cons, List.not_mem_nil, or_false] at hp
        rw [hp])
  refine ⟨E.fd_law, [(tc_wrong_lot, tp_wrong_lot)], [(tp_wrong_lot, nm_wrong_lot)], R_law, ?_, ?_, ?_, ?_, ?_, plain, fun base _ _ hTB => TB base hTB⟩
  · intro p hp
    obtain rfl := List.mem_singleton.mp hp
    exact tb_wrong_lot
  · intro p hp
    obtain rfl := List.mem_singleton.mp hp
    exact n_wrong_lot
  · intro p hp
    obtain rfl := List.mem_singleton.mp hp
    exact PySem.W.codeHd_of_K X t_wrong_lot
  · obtain ⟨oc, od, kV, doc, pm, an, ct, osl, e, lk, hc⟩ := E.F_law.ex
    intro s u
    rw [e]
    exact .of_eq rfl
  · intro p hp
    obtain rfl := List.mem_singleton.mp hp
    exact ⟨tc_wrong_lot, by simp⟩
end LW
open PySem PySem.W PyProof.Rows
theorem PySem.Challenge.cw_bearstacks_k31_whole_crates_that_stand_i_holds : PySem.Challenge.rw_bearstacks_k31_whole_crates_that_stand_i.Holds := by
  w_on; o_law; k_head; (case hw => w_witness2)
  k_fill
  refine MP.walk_law (l := PySem.Challenge.rw_bearstacks_k31_whole_crates_that_stand_i) (n := 63) (k := 46) (x := "script") rfl (by decide) rfl ⟨rfl, by decide, by decide⟩ (fun w h Y => PySem.W.km_in_of Y) ?F
  case F =>
    intro w mg mb fa s₀ h Gd Y KX G hmg
    refine' LW.all_mk KX G hmg ?a_is_whole ?l_is_whole ?c_is_whole ?k_is_whole ?a_is_number ?l_is_number ?c_is_number ?k_is_number ?a_is_tuple_of ?l_is_tuple_of ?c_is_tuple_of ?k_is_tuple_of ?a_wrong_at ?l_wrong_at ?c_wrong_at ?k_wrong_at ?a_is_letters ?l_is_letters ?c_is_letters ?k_is_letters ?a_is_name ?l_is_name ?c_is_name ?k_is_name ?a_is_crate_form ?l_is_crate_form ?c_is_crate_form ?k_is_crate_form ?a_wrong_lot ?l_wrong_lot ?c_wrong_lot ?k_wrong_lot ?dl_wrong_lot ?de_wrong_lot ?o_wrong_lot ?r_wrong_lot ?t_wrong_lot ?n_wrong_lot ?tb_wrong_lot ?a_weight_up_to ?l_weight_up_to ?c_weight_up_to ?k_weight_up_to ?a_greatest_bound ?l_greatest_bound ?c_greatest_bound ?k_greatest_bound ?a_check_lot ?l_check_lot ?c_check_lot ?k_check_lot ?a_check_crate ?l_check_crate ?c_check_crate ?k_check_crate ?a_room_at ?l_room_at ?c_room_at ?k_room_at ?a_barred_of ?l_barred_of ?c_barred_of ?k_barred_of ?a_does_for ?l_does_for ?c_does_for ?k_does_for ?a_stands_in ?l_stands_in ?c_stands_in ?k_stands_in ?a_where_not ?l_where_not ?c_where_not ?k_where_not ?a_standing_in ?l_standing_in ?c_standing_in ?k_standing_in ?a__law_well ?l__law_well ?c__law_well ?k__law_well ?a__law_dip ?l__law_dip ?c__law_dip ?k__law_dip ?a__law_one ?l__law_one ?c__law_one ?k__law_one ?a__law_turns ?l__law_turns ?c__law_turns ?k__law_turns ?a__law_is_number ?l__law_is_number ?c__law_is_number ?k__law_is_number ?a__law_words ?l__law_words ?c__law_words ?k__law_words ?a__law_lot ?l__law_lot ?c__law_lot ?k__law_lot ?a__law_to ?l__law_to ?c__law_to ?k__law_to ?a__law_can ?l__law_can ?c__law_can ?k__law_can ?a__law_crate ?l__law_crate ?c__law_crate ?k__law_crate ?a__law_right ?l__law_right ?c__law_right ?k__law_right ?a_law ?l_law ?c_law ?k_law ?v_MOST_BEARS ?v_MOST_CRATES ?v_MOST_IN_NAME ?v_MOST_WEIGHT ?v_SMALL_LETTERS ?v_WORDS ?w_WORDS ?x_WORDS ?y_WORDS ?e_abs ?e_all ?e_bool ?e_divmod ?e_enumerate ?e_int ?e_isinstance ?e_len ?e_list ?e_max ?e_min ?e_range ?e_repr ?e_sorted ?e_str ?e_sum ?e_tuple ?plain
    (case a_is_whole => k_is)
    (case l_is_whole => k_is)
    (case c_is_whole => k_is)
    (case k_is_whole => k_is)
    (case a_is_number => k_is)
    (case l_is_number => k_is)
    (case c_is_number => k_is)
    (case k_is_number => k_is)
    (case a_is_tuple_of => k_is)
    (case l_is_tuple_of => k_is)
    (case c_is_tuple_of => k_is)
    (case k_is_tuple_of => k_is)
    (case a_wrong_at => k_is)
    (case l_wrong_at => k_is)
    (case c_wrong_at => k_is)
    (case k_wrong_at => k_is)
    (case a_is_letters => k_is)
    (case l_is_letters => k_is)
    (case c_is_letters => k_is)
    (case k_is_letters => k_is)
    (case a_is_name => k_is)
    (case l_is_name => k_is)
    (case c_is_name => k_is)
    (case k_is_name => k_is)
    (case a_is_crate_form => k_is)
    (case l_is_crate_form => k_is)
    (case c_is_crate_form => k_is)
    (case k_is_crate_form => k_is)
    (case a_wrong_lot => k_is)
    (case l_wrong_lot => k_is)
    (case c_wrong_lot => k_is)
    (case k_wrong_lot => k_is)
    (case dl_wrong_lot => k_is)
    (case de_wrong_lot => k_is)
    (case o_wrong_lot => k_is)
    (case r_wrong_lot => rfl)
    (case t_wrong_lot => first | k_is | kernel_rfl)
    (case n_wrong_lot => first | k_is | kernel_rfl)
    (case tb_wrong_lot => exact PySem.W.km_tabs_of Y _ (by decide))
    (case a_weight_up_to => k_is)
    (case l_weight_up_to => k_is)
    (case c_weight_up_to => k_is)
    (case k_weight_up_to => k_is)
    (case a_greatest_bound => k_is)
    (case l_greatest_bound => k_is)
    (case c_greatest_bound => k_is)
    (case k_greatest_bound => k_is)
    (case a_check_lot => k_is)
    (case l_check_lot => k_is)
    (case c_check_lot => k_is)
    (case k_check_lot => k_is)
    (case a_check_crate => k_is)
    (case l_check_crate => k_is)
    (case c_check_crate => k_is)
    (case k_check_crate => k_is)
    (case a_room_at => k_is)
    (case l_room_at => k_is)
    (case c_room_at => k_is)
    (case k_room_at => k_is)
    (case a_barred_of => k_is)
    (case l_barred_of => k_is)
    (case c_barred_of => k_is)
    (case k_barred_of => k_is)
    (case a_does_for => k_is)
    (case l_does_for => k_is)
    (case c_does_for => k_is)
    (case k_does_for => k_is)
    (case a_stands_in => k_is)
    (case l_stands_in => k_is)
    (case c_stands_in => k_is)
    (case k_stands_in => k_is)
    (case a_where_not => k_is)
    (case l_where_not => k_is)
    (case c_where_not => k_is)
    (case k_where_not => k_is)
    (case a_standing_in => k_is)
    (case l_standing_in => k_is)
    (case c_standing_in => k_is)
    (case k_standing_in => k_is)
    (case a__law_well => k_is)
    (case l__law_well => k_is)
    (case c__law_well => k_is)
    (case k__law_well => k_is)
    (case a__law_dip => k_is)
    (case l__law_dip => k_is)
    (case c__law_dip => k_is)
    (case k__law_dip => k_is)
    (case a__law_one => k_is)
    (case l__law_one => k_is)
    (case c__law_one => k_is)
    (case k__law_one => k_is)
    (case a__law_turns => k_is)
    (case l__law_turns => k_is)
    (case c__law_turns => k_is)
    (case k__law_turns => k_is)
    (case a__law_is_number => k_is)
    (case l__law_is_number => k_is)
    (case c__law_is_number => k_is)
    (case k__law_is_number => k_is)
    (case a__law_words => k_is)
    (case l__law_words => k_is)
    (case c__law_words => k_is)
    (case k__law_words => k_is)
    (case a__law_lot => k_is)
    (case l__law_lot => k_is)
    (case c__law_lot => k_is)
    (case k__law_lot => k_is)
    (case a__law_to => k_is)
    (case l__law_to => k_is)
    (case c__law_to => k_is)
    (case k__law_to => k_is)
    (case a__law_can => k_is)
    (case l__law_can => k_is)
    (case c__law_can => k_is)
    (case k__law_can => k_is)
    (case a__law_crate => k_is)
    (case l__law_crate => k_is)
    (case c__law_crate => k_is)
    (case k__law_crate => k_is)
    (case a__law_right => k_is)
    (case l__law_right => k_is)
    (case c__law_right => k_is)
    (case k__law_right => k_is)
    (case a_law => k_is)
    (case l_law => k_is)
    (case c_law => k_is)
    (case k_law => k_is)
    (case v_MOST_BEARS => k_is)
    (case v_MOST_CRATES => k_is)
    (case v_MOST_IN_NAME => k_is)
    (case v_MOST_WEIGHT => k_is)
    (case v_SMALL_LETTERS => k_is)
    (case v_WORDS => k_is)
    (case w_WORDS => k_is)
    (case x_WORDS => decide)
    (case y_WORDS => kernel_rfl)
    (case e_abs => k_is)
    (case e_all => k_is)
    (case e_bool => k_is)
    (case e_divmod => k_is)
    (case e_enumerate => k_is)
    (case e_int => k_is)
    (case e_isinstance => k_is)
    (case e_len => k_is)
    (case e_list => k_is)
    (case e_max => k_is)
    (case e_min => k_is)
    (case e_range => k_is)
    (case e_repr => k_is)
    (case e_sorted => k_is)
    (case e_str => k_is)
    (case e_sum => k_is)
    (case e_tuple => k_is)
    case plain => exact LW.plain_law

